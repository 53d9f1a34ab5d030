import PyProof.Rows.All
import Wide.All
import OpenK.AllK
import Wide.FinOn
import HandS.ForMost
import HandS.Walk
import HandS.Star
import HandS.Deep
import HandS.Property
import HandS.Defaults
import HandS.Conv
import HandS.Flow
import HandS.TupAny
import KE.KIndexOf
import KE.KIndexWalk
import HandS.IsInst
import HandS.SetFor
import HandS.Strs
import KE.GoesEnum
import KE.GoesNew
import PyProof.ListNew
import HandS.DictTup
import KE.KDictKeyed
import KE.KDictDisplayH
import HandS.Comp
import KE.SortData
import HandS.Lambda
import KE.KNest
import KE.DataMinKey
import KE.DataCmp
import HandS.SortKw
import PyProof.Rows.StrMeet
import PyProof.Rows.SortStr
import HandS.Text
import HandS.Iter
import HandS.Dict
import HandS.TupMul
import HandS.Style
import HandS.RaiseMore
import HandS.Zip
import KE.KNestM
import KE.KStateDown
import HandS.Base
import HandS.Call
import HandS.Head0
import HandS.Head1
import HandS.Head2
import HandS.HeadEnd
import HandS.HeadHook1
import HandS.HeadHook2
import HandS.HeadHook3
import HandS.HeadHook4
import HandS.EndTab
import HandS.HeadWalk
import PySem.Challenge.RW_leftlogs_k70_whole_one_by_one_is_right
set_option Elab.async false
set_option linter.all false
set_option maxRecDepth 100000
/-! The layer of this proof, first part: what an expression, a test, a row of arguments, a block comes to, told of the text itself. -/
namespace K7
open PySem PySem.Spec PyProof.Rows L2

/-! ### what must hold ahead, by the text alone -/
@[irreducible] def wE (X : Cx) (e : Expr) : TE := fun σ H Q => ∀ (pins : List (Addr × Obj)) (s : Shared), Inv X pins σ H s → wpAny (model X.prog X.w) X.A (eval e X.env) (EP X pins σ Q) X.xe s
@[irreducible] def wT (X : Cx) (e : Expr) : TT := fun σ H Q => ∀ (pins : List (Addr × Obj)) (s : Shared), Inv X pins σ H s → wpAny (model X.prog X.w) X.A (isTrue e X.env (eval e X.env)) (TP X pins σ Q) X.xe s
@[irreducible] def wA (X : Cx) (es : List Expr) : TA := fun σ H Q => ∀ (pos : Pos) (pins : List (Addr × Obj)) (s : Shared), Inv X pins σ H s → wpAny (model X.prog X.w) X.A (spliced (backTo pos (starEach es X.env))) (AP X pins σ Q) X.xe s
@[irreducible] def wS (X : Cx) (st : Stmt) : TS := fun D σ H => ∀ (pins : List (Addr × Obj)) (s : Shared), Inv X pins σ H s → wpAny (model X.prog X.w) X.A (exec st X.env) (SP X pins D) X.xe s
@[irreducible] def wB (X : Cx) (b : List Stmt) : TS := fun D σ H => ∀ (pins : List (Addr × Obj)) (s : Shared), Inv X pins σ H s → wpAny (model X.prog X.w) X.A (execs b X.env) (SP X pins D) X.xe s
@[irreducible] def wG (X : Cx) (tg : Expr) : TG := fun v σ H Q => ∀ (pins : List (Addr × Obj)) (s : Shared) (u : Value), Inv X pins σ H s → RelV v u → wpAny (model X.prog X.w) X.A (assign tg X.env u) (fun _ s' => ∃ σ' H', Inv X pins σ' H' s' ∧ Q σ' H') X.xe s
@[irreducible] def wI (X : Cx) (tg iter : Expr) : TI := fun σ H R => ∀ (pins : List (Addr × Obj)) (s : Shared), Inv X pins σ H s → wpAny (model X.prog X.w) X.A (eval iter X.env) (fun v s1 => wpAny (model X.prog X.w) X.A (pyIter v) (PIE X pins σ tg R) X.xe s1) X.xe s
section
variable {X : Cx} {e tg iter : Expr} {es : List Expr} {st : Stmt} {b : List Stmt} {σ : L2.St} {H : Hp} {D : Ends}
theorem wE_i {Q : VK} (h : ∀ (pins : List (Addr × Obj)) (s : Shared), Inv X pins σ H s → wpAny (model X.prog X.w) X.A (eval e X.env) (EP X pins σ Q) X.xe s) : wE X e σ H Q := by
  unfold wE
  exact h
theorem wE_o {Q : VK} (h : wE X e σ H Q) : ∀ (pins : List (Addr × Obj)) (s : Shared), Inv X pins σ H s → wpAny (model X.prog X.w) X.A (eval e X.env) (EP X pins σ Q) X.xe s := by
  unfold wE at h
  exact h
theorem wT_i {Q : Bool → Hp → Prop} (h : ∀ (pins : List (Addr × Obj)) (s : Shared), Inv X pins σ H s → wpAny (model X.prog X.w) X.A (isTrue e X.env (eval e X.env)) (TP X pins σ Q) X.xe s) : wT X e σ H Q := by
  unfold wT
  exact h
theorem wT_o {Q : Bool → Hp → Prop} (h : wT X e σ H Q) : ∀ (pins : List (Addr × Obj)) (s : Shared), Inv X pins σ H s → wpAny (model X.prog X.w) X.A (isTrue e X.env (eval e X.env)) (TP X pins σ Q) X.xe s := by
  unfold wT at h
  exact h
theorem wA_i {Q : List V → Hp → Prop} (h : ∀ (pos : Pos) (pins : List (Addr × Obj)) (s : Shared), Inv X pins σ H s → wpAny (model X.prog X.w) X.A (spliced (backTo pos (starEach es X.env))) (AP X pins σ Q) X.xe s) : wA X es σ H Q := by
  unfold wA
  exact h
theorem wA_o {Q : List V → Hp → Prop} (h : wA X es σ H Q) : ∀ (pos : Pos) (pins : List (Addr × Obj)) (s : Shared), Inv X pins σ H s → wpAny (model X.prog X.w) X.A (spliced (backTo pos (starEach es X.env))) (AP X pins σ Q) X.xe s := by
  unfold wA at h
  exact h
theorem wS_i (h : ∀ (pins : List (Addr × Obj)) (s : Shared), Inv X pins σ H s → wpAny (model X.prog X.w) X.A (exec st X.env) (SP X pins D) X.xe s) : wS X st D σ H := by
  unfold wS
  exact h
theorem wS_o (h : wS X st D σ H) : ∀ (pins : List (Addr × Obj)) (s : Shared), Inv X pins σ H s → wpAny (model X.prog X.w) X.A (exec st X.env) (SP X pins D) X.xe s := by
  unfold wS at h
  exact h
theorem wB_i (h : ∀ (pins : List (Addr × Obj)) (s : Shared), Inv X pins σ H s → wpAny (model X.prog X.w) X.A (execs b X.env) (SP X pins D) X.xe s) : wB X b D σ H := by
  unfold wB
  exact h
theorem wB_o (h : wB X b D σ H) : ∀ (pins : List (Addr × Obj)) (s : Shared), Inv X pins σ H s → wpAny (model X.prog X.w) X.A (execs b X.env) (SP X pins D) X.xe s := by
  unfold wB at h
  exact h
theorem wG_i {v : V} {Q : L2.St → Hp → Prop} (h : ∀ (pins : List (Addr × Obj)) (s : Shared) (u : Value), Inv X pins σ H s → RelV v u → wpAny (model X.prog X.w) X.A (assign tg X.env u) (fun _ s' => ∃ σ' H', Inv X pins σ' H' s' ∧ Q σ' H') X.xe s) : wG X tg v σ H Q := by
  unfold wG
  exact h
theorem wG_o {v : V} {Q : L2.St → Hp → Prop} (h : wG X tg v σ H Q) : ∀ (pins : List (Addr × Obj)) (s : Shared) (u : Value), Inv X pins σ H s → RelV v u → wpAny (model X.prog X.w) X.A (assign tg X.env u) (fun _ s' => ∃ σ' H', Inv X pins σ' H' s' ∧ Q σ' H') X.xe s := by
  unfold wG at h
  exact h
theorem wI_i {R : It → Hp → Prop} (h : ∀ (pins : List (Addr × Obj)) (s : Shared), Inv X pins σ H s → wpAny (model X.prog X.w) X.A (eval iter X.env) (fun v s1 => wpAny (model X.prog X.w) X.A (pyIter v) (PIE X pins σ tg R) X.xe s1) X.xe s) : wI X tg iter σ H R := by
  unfold wI
  exact h
theorem wI_o {R : It → Hp → Prop} (h : wI X tg iter σ H R) : ∀ (pins : List (Addr × Obj)) (s : Shared), Inv X pins σ H s → wpAny (model X.prog X.w) X.A (eval iter X.env) (fun v s1 => wpAny (model X.prog X.w) X.A (pyIter v) (PIE X pins σ tg R) X.xe s1) X.xe s := by
  unfold wI at h
  exact h
end
section
variable {X : Cx} {e tg iter : Expr} {es : List Expr} {st : Stmt} {b : List Stmt} {σ : L2.St} {H : Hp} {D : Ends}
theorem pe_w : PE X e (wE X e) := ⟨fun pins s _ _ _ I h => wE_o h pins s I⟩
theorem pt_w : PT X e (wT X e) := ⟨fun pins s _ _ _ I h => wT_o h pins s I⟩
theorem pa_w : PA X es (wA X es) := ⟨fun pos pins s _ _ _ I h => wA_o h pos pins s I⟩
theorem ps_w : PS X st (wS X st) := ⟨fun pins s _ _ _ I h => wS_o h pins s I⟩
theorem pb_w : PSs X b (wB X b) := ⟨fun pins s _ _ _ I h => wB_o h pins s I⟩
theorem pg_w : PG X tg (wG X tg) := ⟨fun pins s _ _ _ u _ I r h => wG_o h pins s u I r⟩
theorem pi_w : PI X tg iter (wI X tg iter) := ⟨fun pins s _ _ _ I h => wI_o h pins s I⟩
theorem e_of {t : TE} (p : PE X e t) {Q : VK} (h : t σ H Q) : wE X e σ H Q := wE_i fun pins s I => p.run pins s σ H Q I h
theorem t_of {t : TT} (p : PT X e t) {Q : Bool → Hp → Prop} (h : t σ H Q) : wT X e σ H Q := wT_i fun pins s I => p.run pins s σ H Q I h
theorem a_of {t : TA} (p : PA X es t) {Q : List V → Hp → Prop} (h : t σ H Q) : wA X es σ H Q := wA_i fun pos pins s I => p.run pos pins s σ H Q I h
theorem s_of {t : TS} (p : PS X st t) (h : t D σ H) : wS X st D σ H := wS_i fun pins s I => p.run pins s σ H D I h
theorem b_of {t : TS} (p : PSs X b t) (h : t D σ H) : wB X b D σ H := wB_i fun pins s I => p.run pins s σ H D I h
theorem g_of {t : TG} (p : PG X tg t) {v : V} {Q : L2.St → Hp → Prop} (h : t v σ H Q) : wG X tg v σ H Q := wG_i fun pins s u I r => p.run pins s σ H v u Q I r h
theorem i_of {t : TI} (p : PI X tg iter t) {R : It → Hp → Prop} (h : t σ H R) : wI X tg iter σ H R := wI_i fun pins s I => p.run pins s σ H R I h
/-- a block: its first statement, then the rest -/
theorem b_cons {rest : List Stmt} (h : wS X st { D with nx := wB X rest D } σ H) : wB X (st :: rest) D σ H := b_of (pss_cons ps_w pb_w) h
theorem b_nil (h : D.nx σ H) : wB X [] D σ H := b_of pss_nil h
end

/-! ### heaps that only grow -/
theorem same_new {H : Hp} {p : Addr} {o : HO} (h : H p = none) : Same H (upd H p o) := fun b x e => by
  rw [upd_ne (ne_of_none e h)]
  exact e
/-- what was written stood not before -/
theorem same_over {H H' : Hp} {p : Addr} {o : HO} (e : Same H H') (h : H p = none) : Same H (upd H' p o) := fun b x q => by
  rw [upd_ne (ne_of_none q h)]
  exact e b x q
theorem same_rd {H H' : Hp} {a : Addr} {u : HO} (e : Same H H') (h : Rd H a u) : Rd H' a u := by
  rcases h with h | ⟨o, h⟩
  · exact .inl (e a u h)
  · exact .inr ⟨o, e a _ h⟩
theorem same_l {K : PySem.W.Frag} {H H' : Hp} {a : Addr} {xs : List V} (e : Same H H') (h : SqL K H a xs) : SqL K H' a xs := by
  rcases h with h | h
  · exact .inl (same_rd e h)
  · exact .inr h
theorem same_t {K : PySem.W.Frag} {H H' : Hp} {a : Addr} {xs : List V} (e : Same H H') (h : SqT K H a xs) : SqT K H' a xs := by
  rcases h with h | h
  · exact .inl (same_rd e h)
  · exact .inr h
mutual
theorem dp_same {K : PySem.W.Frag} {H H' : Hp} (e : Same H H') : ∀ {v : V} {d : PyData}, Dp K H v d → Dp K H' v d
  | _, _, .non => .non
  | _, _, .bl b => .bl b
  | _, _, .int i => .int i
  | _, _, .str x => .str x
  | _, _, .lst h a => .lst (same_l e h) (dpa_same e a)
  | _, _, .tup h a => .tup (same_t e h) (dpa_same e a)
theorem dpa_same {K : PySem.W.Frag} {H H' : Hp} (e : Same H H') : ∀ {vs : List V} {ds : List PyData}, DpAll K H vs ds → DpAll K H' vs ds
  | _, _, .nil => .nil
  | _, _, .cons h a => .cons (dp_same e h) (dpa_same e a)
end

/-! ### a property of a value that lasts while the heap grows -/
structure Mp where
  p : V → Hp → Prop
  mono : ∀ {v : V} {H H' : Hp}, Same H H' → p v H → p v H'
/-- it is this very value -/
def eqM (v : V) : Mp := ⟨fun u _ => u = v, fun _ h => h⟩
/-- it stands for these data -/
def dt (K : PySem.W.Frag) (d : PyData) : Mp := ⟨fun v H => Dp K H v d, fun e h => dp_same e h⟩
def AllM : List Mp → List V → Hp → Prop
  | [], [], _ => True
  | P :: Ps, v :: vs, H => P.p v H ∧ AllM Ps vs H
  | _, _, _ => False
theorem AllM.mono {H H' : Hp} (e : Same H H') : ∀ {Ps : List Mp} {vs : List V}, AllM Ps vs H → AllM Ps vs H'
  | [], [], _ => True.intro
  | P :: Ps, _ :: _, h => ⟨P.mono e h.1, AllM.mono e h.2⟩
  | [], _ :: _, h => h.elim
  | _ :: _, [], h => h.elim
theorem allM_dt {K : PySem.W.Frag} {H : Hp} : ∀ {ds : List PyData} {vs : List V}, AllM (ds.map (dt K)) vs H ↔ DpAll K H vs ds
  | [], [] => ⟨fun _ => .nil, fun _ => True.intro⟩
  | d :: ds, v :: vs => ⟨fun h => .cons h.1 (allM_dt.mp h.2), fun h => by cases h with | cons a b => exact ⟨a, allM_dt.mpr b⟩⟩
  | [], _ :: _ => ⟨fun h => h.elim, fun h => by cases h⟩
  | _ :: _, [] => ⟨fun h => h.elim, fun h => by cases h⟩
theorem allM_app {H : Hp} : ∀ {Ps Qs : List Mp} {vs ws : List V}, AllM Ps vs H → AllM Qs ws H → AllM (Ps ++ Qs) (vs ++ ws) H
  | [], _, [], _, _, h => h
  | _ :: _, _, _ :: _, _, h, g => ⟨h.1, allM_app h.2 g⟩
  | [], _, _ :: _, _, h, _ => h.elim
  | _ :: _, _, [], _, h, _ => h.elim
theorem dpa_len {K : PySem.W.Frag} {H : Hp} : ∀ {vs : List V} {ds : List PyData}, DpAll K H vs ds → vs.length = ds.length
  | _, _, .nil => rfl
  | _, _, .cons _ a => congrArg (· + 1) (dpa_len a)
theorem dpa_get {K : PySem.W.Frag} {H : Hp} : ∀ {vs : List V} {ds : List PyData} {i : Nat} {d : PyData}, DpAll K H vs ds → ds[i]? = some d → ∃ v, vs[i]? = some v ∧ Dp K H v d
  | _, _, _, _, .nil, e => by simp at e
  | _, _, 0, _, .cons h _, e => by
    simp at e
    subst e
    exact ⟨_, rfl, h⟩
  | _, _, i + 1, _, .cons _ a, e => by
    obtain ⟨v, h1, h2⟩ := dpa_get (i := i) a (by simpa using e)
    exact ⟨v, by simpa using h1, h2⟩
theorem dpa_at {K : PySem.W.Frag} {H : Hp} : ∀ {vs : List V} {ds : List PyData} {i : Nat} {v : V}, DpAll K H vs ds → vs[i]? = some v → ∃ d, ds[i]? = some d ∧ Dp K H v d
  | _, _, _, _, .nil, e => by simp at e
  | _, _, 0, _, .cons h _, e => by
    simp at e
    subst e
    exact ⟨_, rfl, h⟩
  | _, _, i + 1, _, .cons _ a, e => by
    obtain ⟨v, h1, h2⟩ := dpa_at (i := i) a (by simpa using e)
    exact ⟨v, by simpa using h1, h2⟩
theorem dpa_app {K : PySem.W.Frag} {H : Hp} : ∀ {vs ws : List V} {ds es : List PyData}, DpAll K H vs ds → DpAll K H ws es → DpAll K H (vs ++ ws) (ds ++ es)
  | _, _, _, _, .nil, h => h
  | _, _, _, _, .cons a b, h => .cons a (dpa_app b h)
theorem dpa_take {K : PySem.W.Frag} {H : Hp} : ∀ {vs : List V} {ds : List PyData} (n : Nat), DpAll K H vs ds → DpAll K H (vs.take n) (ds.take n)
  | _, _, 0, _ => .nil
  | _, _, _ + 1, .nil => .nil
  | _, _, n + 1, .cons a b => .cons a (dpa_take n b)
theorem dpa_drop {K : PySem.W.Frag} {H : Hp} : ∀ {vs : List V} {ds : List PyData} (n : Nat), DpAll K H vs ds → DpAll K H (vs.drop n) (ds.drop n)
  | _, _, 0, h => h
  | _, _, _ + 1, .nil => .nil
  | _, _, n + 1, .cons _ b => dpa_drop n b
theorem dpa_snoc {K : PySem.W.Frag} {H : Hp} {vs : List V} {ds : List PyData} {v : V} {d : PyData} (h : DpAll K H vs ds) (g : Dp K H v d) : DpAll K H (vs ++ [v]) (ds ++ [d]) := dpa_app h (.cons g .nil)
theorem dp_l {K : PySem.W.Frag} {H : Hp} {v : V} {ds : List PyData} (h : Dp K H v (.list ds)) : ∃ a xs, v = .ref a ∧ SqL K H a xs ∧ DpAll K H xs ds := by
  cases h with
  | lst a b => exact ⟨_, _, rfl, a, b⟩
theorem dp_t {K : PySem.W.Frag} {H : Hp} {v : V} {ds : List PyData} (h : Dp K H v (.tuple ds)) : ∃ a xs, v = .ref a ∧ SqT K H a xs ∧ DpAll K H xs ds := by
  cases h with
  | tup a b => exact ⟨_, _, rfl, a, b⟩
theorem dp_i {K : PySem.W.Frag} {H : Hp} {v : V} {i : Int} (h : Dp K H v (.int i)) : v = .int i := by
  cases h
  rfl
theorem dp_s {K : PySem.W.Frag} {H : Hp} {v : V} {x : Str} (h : Dp K H v (.str x)) : v = .str x := by
  cases h
  rfl
theorem dp_b {K : PySem.W.Frag} {H : Hp} {v : V} {b : Bool} (h : Dp K H v (.bool b)) : v = .bl b := by
  cases h
  rfl
theorem dp_n {K : PySem.W.Frag} {H : Hp} {v : V} (h : Dp K H v .none) : v = .non := by
  cases h
  rfl

/-! ### what is seen (B) of what stands (H): new things may be seen, nothing that stood and was not seen -/
structure Nx (B H B' H' : Hp) : Prop where
  h : Same H H'
  b : Same B B'
  s : Same B' H'
  o : ∀ a, H a ≠ none → B' a = B a
  n : ∀ a ps, H a = none → B' a ≠ some (.tbl ps)
theorem same_some {H H' : Hp} (s : Same H H') {a : Addr} (h : H a ≠ none) : H' a ≠ none := by
  cases e : H a with
  | none => exact absurd e h
  | some o =>
    rw [s a o e]
    exact fun z => by cases z
theorem Nx.refl {B H : Hp} (s : Same B H) : Nx B H B H := ⟨Same.refl H, Same.refl B, s, fun _ _ => rfl, fun a ps h e => by rw [s _ _ e] at h; cases h⟩
theorem Nx.trans {B H B1 H1 B2 H2 : Hp} (x : Nx B H B1 H1) (y : Nx B1 H1 B2 H2) : Nx B H B2 H2 :=
  ⟨x.h.trans y.h, x.b.trans y.b, y.s, fun a h => (y.o a (same_some x.h h)).trans (x.o a h), fun a ps h e => by
    cases q : H1 a with
    | none => exact y.n a ps q e
    | some o =>
      rw [y.o a (by rw [q]; exact fun z => by cases z)] at e
      exact x.n a ps h e⟩
/-- more was seen ahead -/
theorem Nx.more {B B0 H B1 H1 : Hp} (x : Nx B0 H B1 H1) (s : Same B0 B) (t : Same B H) : ∃ B2, Nx B H B2 H1 ∧ Same B1 B2 := by
  refine ⟨fun a => if H a = none then B1 a else B a, ⟨x.h, fun a o e => ?_, fun a o e => ?_, fun a h => if_neg h, fun a ps h e => x.n a ps h ((if_pos h).symm.trans e)⟩, fun a o e => ?_⟩
  · have e1 : H a ≠ none := by
      rw [t a o e]
      exact fun z => by cases z
    show (if H a = none then B1 a else B a) = some o
    rw [if_neg e1]
    exact e
  · by_cases h : H a = none
    · rw [if_pos h] at e
      exact x.s a o e
    · rw [if_neg h] at e
      exact x.h a o (t a o e)
  · by_cases h : H a = none
    · show (if H a = none then B1 a else B a) = some o
      rw [if_pos h]
      exact e
    · show (if H a = none then B1 a else B a) = some o
      rw [if_neg h]
      exact s a o ((x.o a h).symm.trans e)
/-- a new thing, seen -/
theorem Nx.put {B H B1 H1 : Hp} {p : Addr} {o : HO} (x : Nx B H B1 H1) (hp : H1 p = none) (ho : ∀ ps, o ≠ .tbl ps := by intro _ h; cases h) : Nx B H (upd B1 p o) (upd H1 p o) := by
  have e1 : B1 p = none := by
    cases e : B1 p with
    | none => rfl
    | some u =>
      rw [x.s p u e] at hp
      cases hp
  have e0 : H p = none := by
    cases e : H p with
    | none => rfl
    | some u =>
      rw [x.h p u e] at hp
      cases hp
  refine ⟨x.h.trans (same_new hp), x.b.trans (same_new e1), fun a u e => ?_, fun a h => ?_, fun a ps h e => ?_⟩
  · by_cases ha : a = p
    · subst ha
      rw [upd_same] at e ⊢
      exact e
    · rw [upd_ne ha] at e ⊢
      exact x.s a u e
  · have ha : a ≠ p := fun z => h (z ▸ e0)
    rw [upd_ne ha]
    exact x.o a h
  · by_cases ha : a = p
    · subst ha
      rw [upd_same] at e
      injection e with e
      exact ho ps e
    · rw [upd_ne ha] at e
      exact x.n a ps h e
/-- a new thing, not seen: a list that will be written -/
theorem Nx.hid {B H B1 H1 : Hp} {p : Addr} {o : HO} (x : Nx B H B1 H1) (hp : H p = none) (hb : B1 p = none) : Nx B H B1 (upd H1 p o) :=
  ⟨same_over x.h hp, x.b, same_over x.s hb, x.o, x.n⟩
/-- .. and seen from now on -/
theorem Nx.see {B H B1 H1 : Hp} {p : Addr} {o : HO} (x : Nx B H B1 H1) (hp : H p = none) (hb : B1 p = none) (h : H1 p = some o) (ho : ∀ ps, o ≠ .tbl ps := by intro _ h; cases h) : Nx B H (upd B1 p o) H1 := by
  refine ⟨x.h, x.b.trans (same_new hb), fun a u e => ?_, fun a h => ?_, fun a ps h e => ?_⟩
  · by_cases ha : a = p
    · subst ha
      rw [upd_same] at e
      rw [h]
      exact e
    · rw [upd_ne ha] at e
      exact x.s a u e
  · have ha : a ≠ p := fun z => h (z ▸ hp)
    rw [upd_ne ha]
    exact x.o a h
  · by_cases ha : a = p
    · subst ha
      rw [upd_same] at e
      injection e with e
      exact ho ps e
    · rw [upd_ne ha] at e
      exact x.n a ps h e
/-- no table is seen -/
def NoT (B : Hp) : Prop := ∀ a ps, B a ≠ some (.tbl ps)
theorem NoT.nx {B H B' H' : Hp} (n : NoT B) (x : Nx B H B' H') : NoT B' := fun a ps e => by
  cases q : H a with
  | none => exact x.n a ps q e
  | some o =>
    rw [x.o a (by rw [q]; exact fun z => by cases z)] at e
    exact n a ps e

/-! ### what things come to, where B is seen -/
def EV (X : Cx) (e : Expr) (σ : L2.St) (B : Hp) (P : Mp) : Prop := ∀ H, Same B H → ∀ Q : VK, (∀ v B1 H1, Nx B H B1 H1 → P.p v B1 → Q v H1) → wE X e σ H Q
def ET (X : Cx) (e : Expr) (σ : L2.St) (B : Hp) (b : Bool) : Prop := ∀ H, Same B H → ∀ Q : Bool → Hp → Prop, (∀ B1 H1, Nx B H B1 H1 → Q b H1) → wT X e σ H Q
def EA (X : Cx) (es : List Expr) (σ : L2.St) (B : Hp) (Ps : List Mp) : Prop := ∀ H, Same B H → ∀ Q : List V → Hp → Prop, (∀ vs B1 H1, Nx B H B1 H1 → AllM Ps vs B1 → Q vs H1) → wA X es σ H Q
/-- an operation on values -/
def RV (r : R2) (x y : V) (B : Hp) (R : Mp) : Prop := ∀ H, Same B H → ∀ Q : VK, (∀ v B1 H1, Nx B H B1 H1 → R.p v B1 → Q v H1) → r x y H Q
def RC (r : List V → Hp → VK → Prop) (vs : List V) (B : Hp) (R : Mp) : Prop := ∀ H, Same B H → ∀ Q : VK, (∀ v B1 H1, Nx B H B1 H1 → R.p v B1 → Q v H1) → r vs H Q
/-- .. whose outcome is a plain value -/
theorem rv_now {r : R2} {x y z : V} {B : Hp} {R : Mp} (h : R.p z B) (hr : ∀ H, Same B H → ∀ Q : VK, Q z H → r x y H Q) : RV r x y B R := fun H s Q q => hr H s Q (q z B H (Nx.refl s) h)
theorem rc_now {r : List V → Hp → VK → Prop} {vs : List V} {z : V} {B : Hp} {R : Mp} (h : R.p z B) (hr : ∀ H, Same B H → ∀ Q : VK, Q z H → r vs H Q) : RC r vs B R := fun H s Q q => hr H s Q (q z B H (Nx.refl s) h)
section
variable {X : Cx} {a b c e : Expr} {es : List Expr} {σ : L2.St} {B B' H : Hp} {P P' R : Mp} {Ps : List Mp} {pos : Pos}
theorem EV.mono (s : Same B B') (h : EV X e σ B P) : EV X e σ B' P := fun H t Q q => h H (s.trans t) Q fun v B1 H1 x p => by
  obtain ⟨B2, y, z⟩ := x.more s t
  exact q v B2 H1 y (P.mono z p)
theorem ET.mono {k : Bool} (s : Same B B') (h : ET X e σ B k) : ET X e σ B' k := fun H t Q q => h H (s.trans t) Q fun B1 H1 x => by
  obtain ⟨B2, y, z⟩ := x.more s t
  exact q B2 H1 y
theorem EA.mono (s : Same B B') (h : EA X es σ B Ps) : EA X es σ B' Ps := fun H t Q q => h H (s.trans t) Q fun v B1 H1 x p => by
  obtain ⟨B2, y, z⟩ := x.more s t
  exact q v B2 H1 y (AllM.mono z p)
theorem EV.imp (h : EV X e σ B P) (i : ∀ v B1, Same B B1 → P.p v B1 → R.p v B1) : EV X e σ B R := fun H s Q q => h H s Q fun v B1 H1 x p => q v B1 H1 x (i v B1 x.b p)
theorem EV.is {d d' : PyData} (h : EV X e σ B (dt X.K d)) (i : d = d') : EV X e σ B (dt X.K d') := i ▸ h
theorem ET.is {k k' : Bool} (h : ET X e σ B k) (i : k = k') : ET X e σ B k' := i ▸ h
theorem ev_of {t : TE} (p : PE X e t) (h : ∀ H, Same B H → ∀ Q : VK, (∀ v B1 H1, Nx B H B1 H1 → P.p v B1 → Q v H1) → t σ H Q) : EV X e σ B P := fun H s Q q => e_of p (h H s Q q)
theorem et_of {t : TT} {k : Bool} (p : PT X e t) (h : ∀ H, Same B H → ∀ Q : Bool → Hp → Prop, (∀ B1 H1, Nx B H B1 H1 → Q k H1) → t σ H Q) : ET X e σ B k := fun H s Q q => t_of p (h H s Q q)
theorem ea_of {t : TA} (p : PA X es t) (h : ∀ H, Same B H → ∀ Q : List V → Hp → Prop, (∀ vs B1 H1, Nx B H B1 H1 → AllM Ps vs B1 → Q vs H1) → t σ H Q) : EA X es σ B Ps := fun H s Q q => a_of p (h H s Q q)
/-- names, constants -/
theorem ev_var (i : Nat) {x : Str} {v : V} (hs : σ[i]? = some (some v)) (h : P.p v B) (hN : X.N[i]? = some x := by rfl) (hv : Vis X.env.scope x := by first | exact Or.inl rfl | exact Or.inr (Or.inl rfl) | exact Or.inr (Or.inr rfl))
    (hd : (x == ("__debug__" : Str)) = false := by decide) (hcd : (x == ("__classdict__" : Str)) = false := by decide) : EV X (.Name x pos) σ B P :=
  ev_of (pe_var hN hv hd hcd) fun H s Q q => ⟨v, hs, q v B H (Nx.refl s) h⟩
theorem ev_const {t : V} (p : PE X e (tC t)) (h : ∀ H1, P.p t H1) : EV X e σ B P := ev_of p fun H s Q q => q t B H (Nx.refl s) (h B)
theorem ev_int {i : Int} {j : Nat} : EV X (.Constant (.int i) j pos) σ B (dt X.K (.int i)) := ev_const pe_int fun _ => .int i
theorem ev_str {x : Str} {j : Nat} : EV X (.Constant (.str x) j pos) σ B (dt X.K (.str x)) := ev_const pe_str fun _ => .str x
theorem ev_bl {k : Bool} {j : Nat} : EV X (.Constant (.bool k) j pos) σ B (dt X.K (.bool k)) := ev_const pe_bl fun _ => .bl k
theorem ev_non {j : Nat} : EV X (.Constant .none j pos) σ B (dt X.K .none) := ev_const pe_non fun _ => .non
/-- operators, by values -/
theorem ev_two {t : TE} {r : R2} (p : PE X e t) (ht : ∀ H Q, (wE X a σ H fun x H1 => wE X b σ H1 fun y H2 => r x y H2 Q) → t σ H Q) (ha : EV X a σ B P) (hb : EV X b σ B P') (hr : ∀ x y B1, Same B B1 → P.p x B1 → P'.p y B1 → RV r x y B1 R) : EV X e σ B R :=
  ev_of p fun H s Q q => ht H Q (ha H s _ fun x B1 H1 x1 px => EV.mono x1.b hb H1 x1.s _ fun y B2 H2 x2 py => hr x y B2 (x1.b.trans x2.b) (P.mono x2.b px) py H2 x2.s Q fun v B3 H3 x3 r => q v B3 H3 (x1.trans (x2.trans x3)) r)
theorem ev_bin {op : Operator} {r : R2} (ho : OpR X (binaryOp op) r) (ha : EV X a σ B P) (hb : EV X b σ B P') (hr : ∀ x y B1, Same B B1 → P.p x B1 → P'.p y B1 → RV r x y B1 R) : EV X (.BinOp a op b pos) σ B R :=
  ev_two (pe_op ho pe_w pe_w) (fun H Q h => h) ha hb hr
theorem ev_cmp {op : CmpOp} {r : R2} (ho : OpR X (compareOp op) r) (hm : behindInMarks op b = false) (ha : EV X a σ B P) (hb : EV X b σ B P') (hr : ∀ x y B1, Same B B1 → P.p x B1 → P'.p y B1 → RV r x y B1 R) : EV X (.Compare a [op] [b] pos) σ B R :=
  ev_two (pe_cmpR ho pe_w pe_w hm) (fun H Q h => h) ha hb hr
theorem ev_ix {r : R2} (ho : IxR X r) (hs : PlainIx b) (ha : EV X a σ B P) (hb : EV X b σ B P') (hr : ∀ x y B1, Same B B1 → P.p x B1 → P'.p y B1 → RV r x y B1 R) : EV X (.Subscript a b pos) σ B R :=
  ev_two (pe_ix ho pe_w pe_w hs) (fun H Q h => h) ha hb hr
theorem et_cmp {op : CmpOp} {r : R2} {k : Bool} (ho : OpR X (compareOp op) r) (hm : behindInMarks op b = false) (ha : EV X a σ B P) (hb : EV X b σ B P') (hr : ∀ x y B1, Same B B1 → P.p x B1 → P'.p y B1 → RV r x y B1 (eqM (.bl k))) : ET X (.Compare a [op] [b] pos) σ B k :=
  et_of (pt_cmpR ho pe_w pe_w hm) fun H s Q q => ha H s _ fun x B1 H1 x1 px => EV.mono x1.b hb H1 x1.s _ fun y B2 H2 x2 py => hr x y B2 (x1.b.trans x2.b) (P.mono x2.b px) py H2 x2.s _ fun v B3 H3 x3 r => ⟨k, r, q B3 H3 (x1.trans (x2.trans x3))⟩
/-- a test that is a value -/
theorem et_val {k : Bool} (h : EV X e σ B (dt X.K (.bool k))) (he : ∀ whole, isTrue e X.env whole = (do let v ← whole; standAt e.pos; holding [v] (truthy v)) := by intro _; rfl) : ET X e σ B k :=
  et_of (pt_val pe_w he) fun H s Q q => h H s _ fun x B1 H1 x1 px => ⟨k, dp_b px, q B1 H1 x1⟩
/-- arguments -/
theorem ea_nil : EA X [] σ B [] := ea_of pa_nil fun H s Q q => q [] B H (Nx.refl s) True.intro
theorem ea_cons (he : EV X e σ B P) (hr : EA X es σ B Ps) (hs : starEach (e :: es) X.env = (false, eval e X.env) :: starEach es X.env := by rfl) : EA X (e :: es) σ B (P :: Ps) :=
  ea_of (pa_cons pe_w pa_w hs) fun H s Q q => he H s _ fun x B1 H1 x1 px => EA.mono x1.b hr H1 x1.s _ fun vs B2 H2 x2 pv => q (x :: vs) B2 H2 (x1.trans x2) ⟨P.mono x2.b px, pv⟩
/-- .. with a star: a list's or a tuple's items -/
theorem ea_starL {ds : List PyData} {p : Pos} (he : EV X e σ B (dt X.K (.list ds))) (hr : EA X es σ B Ps) (hs : starEach (.Starred e p :: es) X.env = (true, eval e X.env) :: starEach es X.env := by rfl) : EA X (.Starred e p :: es) σ B (ds.map (dt X.K) ++ Ps) :=
  ea_of (StX.pa_star pe_w pa_w hs) fun H s Q q => he H s _ fun x B1 H1 x1 px => by
    obtain ⟨a, xs, rfl, hl, ha⟩ := dp_l px
    exact ⟨a, xs, rfl, .inr (same_l x1.s hl), EA.mono x1.b hr H1 x1.s _ fun vs B2 H2 x2 pv => q (xs ++ vs) B2 H2 (x1.trans x2) (allM_app (allM_dt.mpr (dpa_same x2.b ha)) pv)⟩
theorem ea_starT {ds : List PyData} {p : Pos} (he : EV X e σ B (dt X.K (.tuple ds))) (hr : EA X es σ B Ps) (hs : starEach (.Starred e p :: es) X.env = (true, eval e X.env) :: starEach es X.env := by rfl) : EA X (.Starred e p :: es) σ B (ds.map (dt X.K) ++ Ps) :=
  ea_of (StX.pa_star pe_w pa_w hs) fun H s Q q => he H s _ fun x B1 H1 x1 px => by
    obtain ⟨a, xs, rfl, hl, ha⟩ := dp_t px
    exact ⟨a, xs, rfl, .inl (same_t x1.s hl), EA.mono x1.b hr H1 x1.s _ fun vs B2 H2 x2 pv => q (xs ++ vs) B2 H2 (x1.trans x2) (allM_app (allM_dt.mpr (dpa_same x2.b ha)) pv)⟩
theorem EA.data {ds : List PyData} (h : EA X es σ B Ps) (e : Ps = ds.map (dt X.K)) : EA X es σ B (ds.map (dt X.K)) := e ▸ h
/-- displays -/
theorem ev_tup {ds : List PyData} {x1 : Nat} (h : EA X es σ B (ds.map (dt X.K))) (hl : ds.length ≤ 100000 := by decide) : EV X (.Tuple es x1 pos) σ B (dt X.K (.tuple ds)) :=
  ev_of (pe_tup pa_w) fun H s Q q => h H s _ fun vs B1 H1 x1 pv => by
    have hd := allM_dt.mp pv
    refine ⟨Nat.le_trans (Nat.le_of_eq (dpa_len hd)) (Nat.le_trans hl (by decide)), fun p hp => ?_⟩
    have x2 := (Nx.refl x1.s).put (o := .tup vs) hp
    exact q _ _ _ (x1.trans x2) (.tup (.inl (.inl upd_same)) (dpa_same x2.b hd))
theorem ev_lst {ds : List PyData} (h : EA X es σ B (ds.map (dt X.K))) (hl : ds.length ≤ 100000 := by decide) : EV X (.List es pos) σ B (dt X.K (.list ds)) :=
  ev_of (pe_lst pa_w) fun H s Q q => h H s _ fun vs B1 H1 x1 pv => by
    have hd := allM_dt.mp pv
    refine ⟨Nat.le_trans (Nat.le_of_eq (dpa_len hd)) (Nat.le_trans hl (by decide)), fun p hp => ?_⟩
    have x2 := (Nx.refl x1.s).put (o := .lst vs) hp
    exact q _ _ _ (x1.trans x2) (.lst (.inl (.inl upd_same)) (dpa_same x2.b hd))
/-- and, or, not, if .. else -/
theorem et_not {k : Bool} (h : ET X a σ B k) : ET X (.UnaryOp .Not a pos) σ B (!k) := et_of (pt_not pt_w) fun H s Q q => h H s _ fun B1 H1 x1 => q B1 H1 x1
theorem ev_not {k : Bool} (h : EV X a σ B (dt X.K (.bool k))) : EV X (.UnaryOp .Not a pos) σ B (dt X.K (.bool (!k))) :=
  ev_of (pe_not pe_w) fun H s Q q => h H s _ fun x B1 H1 x1 px => ⟨k, dp_b px, q _ B1 H1 x1 (.bl _)⟩
theorem et_and {k j : Bool} (h : ET X a σ B k) (g : k = true → ET X b σ B j) : ET X (.BoolOp .And [a, b] pos) σ B (k && j) :=
  et_of (PW.pt (pw_and pt_w (pw_and1 pt_w))) fun H s Q q => h H s _ fun B1 H1 x1 => by
    cases k with
    | true => exact iteT (ET.mono x1.b (g rfl) H1 x1.s _ fun B2 H2 x2 => q B2 H2 (x1.trans x2))
    | false => exact iteF (q B1 H1 x1)
theorem et_or {k j : Bool} (h : ET X a σ B k) (g : k = false → ET X b σ B j) : ET X (.BoolOp .Or [a, b] pos) σ B (k || j) :=
  et_of (PW.pt (pw_or pt_w (pw_or1 pt_w))) fun H s Q q => h H s _ fun B1 H1 x1 => by
    cases k with
    | true => exact iteT (q B1 H1 x1)
    | false => exact iteF (ET.mono x1.b (g rfl) H1 x1.s _ fun B2 H2 x2 => q B2 H2 (x1.trans x2))
theorem ev_and {k j : Bool} (h : EV X a σ B (dt X.K (.bool k))) (g : k = true → EV X b σ B (dt X.K (.bool j))) : EV X (.BoolOp .And [a, b] pos) σ B (dt X.K (.bool (k && j))) :=
  ev_of (pe_and pe_w (pe_one pe_w)) fun H s Q q => h H s _ fun x B1 H1 x1 px => by
    refine ⟨k, dp_b px, ?_⟩
    cases k with
    | true => exact iteT (EV.mono x1.b (g rfl) H1 x1.s _ fun v B2 H2 x2 pv => q v B2 H2 (x1.trans x2) pv)
    | false => exact iteF (q _ B1 H1 x1 (.bl false))
theorem ev_ite {k : Bool} (h : ET X c σ B k) (g1 : k = true → EV X a σ B R) (g2 : k = false → EV X b σ B R) : EV X (.IfExp c a b pos) σ B R :=
  ev_of (pe_ifExp pt_w pe_w pe_w) fun H s Q q => h H s _ fun B1 H1 x1 => by
    cases k with
    | true => exact iteT (EV.mono x1.b (g1 rfl) H1 x1.s _ fun v B2 H2 x2 pv => q v B2 H2 (x1.trans x2) pv)
    | false => exact iteF (EV.mono x1.b (g2 rfl) H1 x1.s _ fun v B2 H2 x2 pv => q v B2 H2 (x1.trans x2) pv)
end
end K7
/-! The layer, second part: calls and promises, what is walked, comprehensions, statements. -/
namespace K7
open PySem PySem.Spec PyProof.Rows L2

/-! ### promises that touch nothing: arguments as told, what comes back as told -/
def spD {T : Type} (args : T → List Mp) (pre : T → Prop) (res : T → Mp) : Sp := fun vs H Q _ => ∃ (t : T) (B : Hp), Same B H ∧ AllM (args t) vs B ∧ pre t ∧ ∀ v B1 H1, Nx B H B1 H1 → (res t).p v B1 → Q v H1
theorem allM_len {H : Hp} : ∀ {Ps : List Mp} {vs : List V}, AllM Ps vs H → vs.length = Ps.length
  | [], [], _ => rfl
  | _ :: _, _ :: _, h => congrArg (· + 1) (allM_len h.2)
  | [], _ :: _, h => h.elim
  | _ :: _, [], h => h.elim
theorem allM0 {H : Hp} {vs : List V} (h : AllM [] vs H) : vs = [] := by
  cases vs with
  | nil => rfl
  | cons => exact h.elim
theorem allM1 {H : Hp} {A : Mp} {vs : List V} (h : AllM [A] vs H) : ∃ a, vs = [a] ∧ A.p a H := by
  match vs, h with
  | [a], h => exact ⟨a, rfl, h.1⟩
  | _ :: _ :: _, h => exact h.2.elim
theorem allM2 {H : Hp} {A B : Mp} {vs : List V} (h : AllM [A, B] vs H) : ∃ a b, vs = [a, b] ∧ A.p a H ∧ B.p b H := by
  match vs, h with
  | [a, b], h => exact ⟨a, b, rfl, h.1, h.2.1⟩
  | [_], h => exact h.2.elim
  | _ :: _ :: _ :: _, h => exact h.2.2.elim
theorem allM3 {H : Hp} {A B C : Mp} {vs : List V} (h : AllM [A, B, C] vs H) : ∃ a b c, vs = [a, b, c] ∧ A.p a H ∧ B.p b H ∧ C.p c H := by
  match vs, h with
  | a :: vs, h =>
    obtain ⟨b, c, e, h2, h3⟩ := allM2 h.2
    exact ⟨a, b, c, by rw [e], h.1, h2, h3⟩
theorem allM4 {H : Hp} {A B C D : Mp} {vs : List V} (h : AllM [A, B, C, D] vs H) : ∃ a b c d, vs = [a, b, c, d] ∧ A.p a H ∧ B.p b H ∧ C.p c H ∧ D.p d H := by
  match vs, h with
  | a :: vs, h =>
    obtain ⟨b, c, d, e, h2, h3, h4⟩ := allM3 h.2
    exact ⟨a, b, c, d, by rw [e], h.1, h2, h3, h4⟩

/-- a def as the top has made it -/
structure Fd (K : PySem.W.Frag) (x qual : Str) (st : Stmt) (dvs : List V) (f : Addr) : Prop where
  ex : ∃ fd, FunD K x qual (defArgs st) (defBody st) (defScope st) dvs [] f fd
/-- .. at a name of the module -/
structure Gd (K : PySem.W.Frag) (mg : Str → Option Value) (x : Str) (st : Stmt) (dvs : List V) : Prop where
  ex : ∃ f, Fd K x x st dvs f ∧ mg x = some (.ref f)
/-- a def that keeps its promise -/
structure Fo (P : Program) (w : World) (K : PySem.W.Frag) (mg : Str → Option Value) (base : Heap) (k : Nat) (f : Addr) (sp : Sp) : Prop where
  ex : ∃ fd ps dvs ds sp0, FnOk P w K mg base CX0 k f fd ps sp0 ∧ PySem.W.keepIn K (.ref f) = true ∧ Binds K fd ps ds ∧ Vals dvs ds ∧ ∀ vs H Q E, sp vs H Q E → sp0 (vs ++ dvs) H Q E
structure Gf (P : Program) (w : World) (K : PySem.W.Frag) (mg : Str → Option Value) (base : Heap) (k : Nat) (x : Str) (sp : Sp) : Prop where
  ex : ∃ f, Fo P w K mg base k f sp ∧ mg x = some (.ref f)
/-- where a def's body runs -/
structure Fz where
  f : Addr
  cd : Value
  A : Around
  outer : List Env
  s : Shared
  H : Hp
  E : XK
abbrev fx (P : Program) (w : World) (K : PySem.W.Frag) (mg : Str → Option Value) (base : Heap) (N : List Str) (qual : Str) (st : Stmt) (z : Fz) : Cx :=
  (cxOf CX0 P w K mg base N qual (defScope st) z.f z.cd z.A z.outer z.s z.H z.E).nox
/-- the ends of a body that touches nothing -/
abbrev Dn (B H : Hp) (R : Mp) : Ends := { nx := fun _ H' => ∃ B', Nx B H B' H' ∧ R.p .non B', rt := fun v H' => ∃ B', Nx B H B' H' ∧ R.p v B' }
section
variable {P : Program} {w : World} {K : PySem.W.Frag} {mg : Str → Option Value} {base : Heap} {x qual : Str} {st : Stmt} {f : Addr} {N ps : List Str} {k : Nat} {sp : Sp}
abbrev BindOk (x qual : Str) (st : Stmt) (ps : List Str) : Prop :=
  ∀ (kV doc pm : Value) (an : Option Addr) (cdv ct : Value) (us : List Value), us.length = ps.length → bindArgs (PySem.W.fnOf x qual (defArgs st) (defBody st) (defScope st) .none kV doc pm an cdv ct) ⟨us, []⟩ = pure (ps.zip us)
theorem mk_any (D : Fd K x qual st [] f) (S : FnScope N ps (defScope st)) (len : ∀ vs H Q E, sp vs H Q E → vs.length = ps.length) (hb : BindOk x qual st ps)
    (body : ∀ (z : Fz) (vs : List V) (Q : VK), Room k (fx P w K mg base N qual st z).A → sp vs z.H Q z.E → wB (fx P w K mg base N qual st z) (defBody st) { nx := fun _ H' => Q .non H', rt := Q } (start N vs) z.H) : Fo P w K mg base (k + 1) f sp := by
  obtain ⟨fd, F⟩ := D.ex
  refine ⟨fd, ps, [], [], sp, ?_, F.kp, F.bindsN hb, .nil, fun vs H Q E h => by rw [List.append_nil]; exact h⟩
  exact F.ok S len fun cdv A outer s H vs Q E hr h => ⟨_, PSs.nox pb_w, body ⟨f, cdv, A, outer, s, H, E⟩ vs Q hr h⟩
/-- a block, its ends weakened -/
theorem b_imp {X : Cx} {b : List Stmt} {D D' : Ends} {σ : L2.St} {H : Hp} (h : wB X b D σ H) (h1 : ∀ σ' H', D.nx σ' H' → D'.nx σ' H') (h2 : ∀ v H', D.rt v H' → D'.rt v H') (h3 : ∀ σ' H', D.bk σ' H' → D'.bk σ' H') (h4 : ∀ σ' H', D.ct σ' H' → D'.ct σ' H') : wB X b D' σ H := by
  refine wB_i fun pins s I => ?_
  refine thn (wB_o h pins s I) fun fl s' h => ?_
  cases fl with
  | next =>
    obtain ⟨σ', H', I', e⟩ := h
    exact ⟨σ', H', I', h1 _ _ e⟩
  | brk =>
    obtain ⟨σ', H', I', e⟩ := h
    exact ⟨σ', H', I', h3 _ _ e⟩
  | cont =>
    obtain ⟨σ', H', I', e⟩ := h
    exact ⟨σ', H', I', h4 _ _ e⟩
  | ret u =>
    obtain ⟨v, σ', H', I', r, e⟩ := h
    exact ⟨v, σ', H', I', r, h2 _ _ e⟩
theorem mk_pure {T : Type} {args : T → List Mp} {pre : T → Prop} {res : T → Mp} (D : Fd K x qual st [] f) (S : FnScope N ps (defScope st)) (hl : ∀ t, (args t).length = ps.length) (hb : BindOk x qual st ps)
    (body : ∀ (z : Fz) (vs : List V) (B : Hp) (t : T), pre t → AllM (args t) vs B → Same B z.H → Room k (fx P w K mg base N qual st z).A → wB (fx P w K mg base N qual st z) (defBody st) (Dn B z.H (res t)) (start N vs) z.H) : Fo P w K mg base (k + 1) f (spD args pre res) := by
  refine mk_any D S (fun vs H Q E h => ?_) hb fun z vs Q hr h => ?_
  · obtain ⟨t, B, _, ha, _⟩ := h
    rw [allM_len ha, hl t]
  · obtain ⟨t, B, sb, ha, hp, q⟩ := h
    exact b_imp (body z vs B t hp ha sb hr) (fun σ' H' ⟨B1, x, r⟩ => q _ _ _ x r) (fun v H' ⟨B1, x, r⟩ => q _ _ _ x r) (fun _ _ z => z.elim) fun _ _ z => z.elim
theorem Gd.any (D : Gd K mg x st []) (S : FnScope N ps (defScope st)) (len : ∀ vs H Q E, sp vs H Q E → vs.length = ps.length) (hb : BindOk x x st ps)
    (body : ∀ (z : Fz) (vs : List V) (Q : VK), Room k (fx P w K mg base N x st z).A → sp vs z.H Q z.E → wB (fx P w K mg base N x st z) (defBody st) { nx := fun _ H' => Q .non H', rt := Q } (start N vs) z.H) : Gf P w K mg base (k + 1) x sp := by
  obtain ⟨f, F, g⟩ := D.ex
  exact ⟨f, mk_any F S len hb body, g⟩
theorem Gd.pure {T : Type} {args : T → List Mp} {pre : T → Prop} {res : T → Mp} (D : Gd K mg x st []) (S : FnScope N ps (defScope st)) (hl : ∀ t, (args t).length = ps.length) (hb : BindOk x x st ps)
    (body : ∀ (z : Fz) (vs : List V) (B : Hp) (t : T), pre t → AllM (args t) vs B → Same B z.H → Room k (fx P w K mg base N x st z).A → wB (fx P w K mg base N x st z) (defBody st) (Dn B z.H (res t)) (start N vs) z.H) : Gf P w K mg base (k + 1) x (spD args pre res) := by
  obtain ⟨f, F, g⟩ := D.ex
  exact ⟨f, mk_pure F S hl hb body, g⟩
theorem Fo.mono {j : Nat} (F : Fo P w K mg base j f sp) (h : j ≤ k) : Fo P w K mg base k f sp := by
  obtain ⟨fd, ps, dvs, ds, sp0, F, r⟩ := F.ex
  exact ⟨fd, ps, dvs, ds, sp0, F.mono h, r⟩
theorem Gf.mono {j : Nat} (G : Gf P w K mg base j x sp) (h : j ≤ k) : Gf P w K mg base k x sp := by
  obtain ⟨f, F, g⟩ := G.ex
  exact ⟨f, F.mono h, g⟩
end
section
variable {X : Cx} {e : Expr} {es : List Expr} {σ : L2.St} {B H : Hp} {Ps : List Mp} {R : Mp} {p pos apos : Pos} {x : Str} {k : Nat} {sp : Sp}
/-- a call by a promise -/
def RS (sp : Sp) (vs : List V) (B : Hp) (R : Mp) : Prop := ∀ H, Same B H → ∀ Q : VK, (∀ v B1 H1, Nx B H B1 H1 → R.p v B1 → Q v H1) → sp vs H Q E0
theorem rs_d {T : Type} {args : T → List Mp} {pre : T → Prop} {res : T → Mp} (t : T) {vs : List V} (h : AllM (args t) vs B) (hp : pre t) : RS (spD args pre res) vs B (res t) := fun H s Q q => ⟨t, B, s, h, hp, q⟩
theorem w_call (G : Gf X.prog X.w X.K X.mg X.base k x sp) (hr : Room k X.A) {Q : VK} (h : wA X (e :: es) σ H fun vs H1 => sp vs H1 Q E0) (hg : Gl X x := by rfl) (hdb : (x == ("__debug__" : Str)) = false := by decide)
    (he : starEach (e :: es) X.env = (false, eval e X.env) :: starEach es X.env := by rfl) (hpl : (backTo pos (starEach es X.env)).any (·.1) = false := by rfl) : wE X (.Call (.Name x p) (e :: es) [] pos) σ H Q := by
  obtain ⟨f, F, g⟩ := G.ex
  obtain ⟨fd, ps, dvs, ds, sp0, F, kp, hb, hv, imp⟩ := F.ex
  refine e_of (pe_call F hr hg g kp hb hv pass0 pa_w hdb he hpl) ?_
  refine wA_i fun pos pins s I => ?_
  exact thn (wA_o h pos pins s I) fun us s' ⟨vs, H', I', r, q⟩ => ⟨vs, H', I', r, imp _ _ _ _ q⟩
theorem w_call0 (G : Gf X.prog X.w X.K X.mg X.base k x sp) (hr : Room k X.A) {Q : VK} (h : sp [] H Q E0) (hg : Gl X x := by rfl) (hdb : (x == ("__debug__" : Str)) = false := by decide) : wE X (.Call (.Name x p) [] [] pos) σ H Q := by
  obtain ⟨f, F, g⟩ := G.ex
  obtain ⟨fd, ps, dvs, ds, sp0, F, kp, hb, hv, imp⟩ := F.ex
  exact e_of (pe_call0 F hr hg g kp hb hv pass0 hdb) (imp _ _ _ _ h)
theorem ev_callR (G : Gf X.prog X.w X.K X.mg X.base k x sp) (hr : Room k X.A) (ha : EA X (e :: es) σ B Ps) (h : ∀ vs B1, Same B B1 → AllM Ps vs B1 → RS sp vs B1 R) (hg : Gl X x := by rfl) (hdb : (x == ("__debug__" : Str)) = false := by decide)
    (he : starEach (e :: es) X.env = (false, eval e X.env) :: starEach es X.env := by rfl) (hpl : (backTo pos (starEach es X.env)).any (·.1) = false := by rfl) : EV X (.Call (.Name x p) (e :: es) [] pos) σ B R :=
  fun H s Q q => w_call G hr (ha H s _ fun vs B1 H1 x1 pv => h vs B1 x1.b pv H1 x1.s Q fun v B2 H2 x2 r => q v B2 H2 (x1.trans x2) r) hg hdb he hpl
theorem ev_call {T : Type} {args : T → List Mp} {pre : T → Prop} {res : T → Mp} (t : T) (G : Gf X.prog X.w X.K X.mg X.base k x (spD args pre res)) (hr : Room k X.A) (ha : EA X (e :: es) σ B (args t)) (hp : pre t) (hg : Gl X x := by rfl) (hdb : (x == ("__debug__" : Str)) = false := by decide)
    (he : starEach (e :: es) X.env = (false, eval e X.env) :: starEach es X.env := by rfl) (hpl : (backTo pos (starEach es X.env)).any (·.1) = false := by rfl) : EV X (.Call (.Name x p) (e :: es) [] pos) σ B (res t) :=
  ev_callR G hr ha (fun vs B1 _ h => rs_d t h hp) hg hdb he hpl
theorem ev_call0 {T : Type} {args : T → List Mp} {pre : T → Prop} {res : T → Mp} (t : T) (G : Gf X.prog X.w X.K X.mg X.base k x (spD args pre res)) (hr : Room k X.A) (ha : args t = []) (hp : pre t) (hg : Gl X x := by rfl) (hdb : (x == ("__debug__" : Str)) = false := by decide) :
    EV X (.Call (.Name x p) [] [] pos) σ B (res t) := fun H s Q q => w_call0 G hr ⟨t, B, s, by rw [ha]; exact True.intro, hp, q⟩ hg hdb
/-- built-ins by name -/
theorem ev_blt {id : String} {r : List V → Hp → VK → Prop} (hc : CallR X (.builtin id) r) (hm : X.mg x = none) (hv : bootBuiltins x = some (.builtin id)) (ha : EA X (e :: es) σ B Ps) (h : ∀ vs B1, Same B B1 → AllM Ps vs B1 → RC r vs B1 R) (hg : Gl X x := by rfl)
    (hn : x ≠ "__name__" := by decide) (hdb : (x == ("__debug__" : Str)) = false := by decide) (he : starEach (e :: es) X.env = (false, eval e X.env) :: starEach es X.env := by rfl) (hpl : (backTo pos (starEach es X.env)).any (·.1) = false := by rfl) : EV X (.Call (.Name x p) (e :: es) [] pos) σ B R :=
  ev_of (pe_callB hc hg hm hv pa_w hn hdb he hpl) fun H s Q q => ha H s _ fun vs B1 H1 x1 pv => h vs B1 x1.b pv H1 x1.s Q fun v B2 H2 x2 r => q v B2 H2 (x1.trans x2) r
theorem ev_bty {id : String} {r : List V → Hp → VK → Prop} (hc : CallR X (.type id) r) (hm : X.mg x = none) (hv : bootBuiltins x = some (.type id)) (ha : EA X (e :: es) σ B Ps) (h : ∀ vs B1, Same B B1 → AllM Ps vs B1 → RC r vs B1 R) (hg : Gl X x := by rfl)
    (hn : x ≠ "__name__" := by decide) (hdb : (x == ("__debug__" : Str)) = false := by decide) (he : starEach (e :: es) X.env = (false, eval e X.env) :: starEach es X.env := by rfl) (hpl : (backTo pos (starEach es X.env)).any (·.1) = false := by rfl) : EV X (.Call (.Name x p) (e :: es) [] pos) σ B R :=
  ev_of (pe_callTy hc hg hm hv pa_w hn hdb he hpl) fun H s Q q => ha H s _ fun vs B1 H1 x1 pv => h vs B1 x1.b pv H1 x1.s Q fun v B2 H2 x2 r => q v B2 H2 (x1.trans x2) r
end

/-! ### what is walked -/
/-- these items, one by one, whatever else is written meanwhile: the walk leans on what is seen alone -/
def SN {ι : Type} (X : Cx) (tg iter : Expr) (σ : L2.St) (B : Hp) (its : List ι) (S : ι → Mp) : Prop := ∀ H, Same B H → ∀ R : It → Hp → Prop,
  (∀ J B1 H1, Nx B H B1 H1 → Walk J its.length (fun H' => Same B1 H') (fun i H' v H'' => Same H' H'' ∧ ∃ it B2, its[i]? = some it ∧ Nx B1 H' B2 H'' ∧ (S it).p v B2) → R J H1) → wI X tg iter σ H R
section
variable {X : Cx} {ι : Type} {tg iter e : Expr} {σ : L2.St} {B B' H : Hp} {its : List ι} {S : ι → Mp} {pos p : Pos}
/-- a list, a tuple: any expression -/
theorem sn_list {ds : List PyData} (h : EV X iter σ B (dt X.K (.list ds))) : SN X tg iter σ B ds (dt X.K) := fun H s R r => i_of (pi_list pe_w) (h H s _ fun v B1 H1 x1 pv => by
  obtain ⟨a, xs, rfl, hl, hd⟩ := dp_l pv
  refine ⟨a, rfl, ⟨xs, same_l x1.s hl⟩, r _ _ _ x1 ?_⟩
  rw [← dpa_len hd]
  exact walk_list.mono (fun H' s => same_l s hl) fun i H' x H'' _ s y => by
    obtain ⟨rfl, e⟩ := y
    obtain ⟨d, e2, g⟩ := dpa_at hd e
    exact ⟨Same.refl _, d, B1, e2, Nx.refl s, g⟩)
theorem sn_tup {ds : List PyData} (h : EV X iter σ B (dt X.K (.tuple ds))) : SN X tg iter σ B ds (dt X.K) := fun H s R r => i_of (pi_tup pe_w) (h H s _ fun v B1 H1 x1 pv => by
  obtain ⟨a, xs, rfl, hl, hd⟩ := dp_t pv
  refine ⟨a, rfl, ⟨xs, same_t x1.s hl⟩, r _ _ _ x1 ?_⟩
  rw [← dpa_len hd]
  exact walk_tup.mono (fun H' s => same_t s hl) fun i H' x H'' _ s y => by
    obtain ⟨rfl, e⟩ := y
    obtain ⟨d, e2, g⟩ := dpa_at hd e
    exact ⟨Same.refl _, d, B1, e2, Nx.refl s, g⟩)
/-- range(n) -/
theorem sn_range {n : Nat} (hm : X.mg "range" = none) (h : EV X e σ B (dt X.K (.int n))) (hn : n ≤ 100000) (hg : Gl X "range" := by rfl) (hs : starEach [e] X.env = (false, eval e X.env) :: starEach [] X.env := by rfl) :
    SN X tg (.Call (.Name "range" p) [e] [] pos) σ B (List.range n) fun i => dt X.K (.int (i : Nat)) := fun H s R r => i_of (pi_range1 hg hm (pa_cons pe_w pa_nil hs) hs) (h H s _ fun v B1 H1 x1 pv => by
  have e := dp_i pv
  subst e
  refine ⟨n, rfl, by omega, by omega, r _ _ _ x1 ?_⟩
  rw [List.length_range]
  exact (walk_range (lo := 0) (n := n)).mono (fun _ _ => True.intro) fun i H' x H'' hi s y => by
    obtain ⟨rfl, rfl⟩ := y
    refine ⟨Same.refl _, i, B1, by rw [List.getElem?_range hi], Nx.refl s, ?_⟩
    show Dp X.K B1 (V.int (0 + (i : Nat))) (.int (i : Nat))
    rw [Int.zero_add]
    exact .int _)
/-- a new pair, told by its two halves -/
def prM (A C : Mp) : Mp := ⟨fun v H => ∃ T x y, v = .ref T ∧ H T = some (.tup [x, y]) ∧ A.p x H ∧ C.p y H, fun s h => by
  obtain ⟨T, x, y, e, h1, h2, h3⟩ := h
  exact ⟨T, x, y, e, s _ _ h1, A.mono s h2, C.mono s h3⟩⟩
/-- enumerate of a list -/
theorem sn_enumL {ds : List PyData} {elts : List Expr} {kk : Nat} {tpos : Pos} (hm : X.mg "enumerate" = none) (h : EV X e σ B (dt X.K (.list ds))) (hg : Gl X "enumerate" := by rfl) (hs : starEach [e] X.env = (false, eval e X.env) :: starEach [] X.env := by rfl) :
    SN X (.Tuple elts kk tpos) (.Call (.Name "enumerate" p) [e] [] pos) σ B ds.zipIdx fun q => prM (dt X.K (.int (q.2 : Nat))) (dt X.K q.1) := fun H s R r => i_of (pi_enum hg hm (pa_cons pe_w pa_nil hs) hs) (h H s _ fun v B1 H1 x1 pv => by
  obtain ⟨a, xs, rfl, hl, hd⟩ := dp_l pv
  refine ⟨a, xs, rfl, same_l x1.s hl, r _ _ _ x1 ?_⟩
  rw [List.length_zipIdx, ← dpa_len hd]
  exact walk_enum.mono (fun H' s => same_l s hl) fun i H' x H'' _ s y => by
    obtain ⟨T, u, z, rfl, nT, rfl, e1, e2⟩ := y
    cases e1
    obtain ⟨d, e3, g⟩ := dpa_at hd e2
    have x2 := (Nx.refl s).put (o := .tup [.int (i : Nat), z]) nT
    exact ⟨x2.h, (d, i), _, by rw [List.getElem?_zipIdx, e3]; simp, x2, T, _, z, rfl, upd_same, .int _, dp_same x2.b g⟩)
/-- items by their codes -/
theorem sn_enc {κ : Type} {l : List κ} {enc : κ → PyData} (h : SN X tg iter σ B (l.map enc) (dt X.K)) : SN X tg iter σ B l fun a => dt X.K (enc a) := fun H s R r => h H s R fun J B1 H1 x1 w => r J B1 H1 x1 (by
  rw [List.length_map] at w
  exact w.mono (fun _ s => s) fun i H' v H'' _ _ ⟨sy, it, B2, e, x, g⟩ => by
    rw [List.getElem?_map] at e
    cases e2 : l[i]? with
    | none =>
      rw [e2] at e
      cases e
    | some a =>
      rw [e2] at e
      cases e
      exact ⟨sy, a, B2, rfl, x, g⟩)
theorem sn_encE {κ : Type} {l : List κ} {enc : κ → PyData} (h : SN X tg iter σ B (l.map enc).zipIdx fun q => prM (dt X.K (.int (q.2 : Nat))) (dt X.K q.1)) : SN X tg iter σ B l.zipIdx fun q => prM (dt X.K (.int (q.2 : Nat))) (dt X.K (enc q.1)) := fun H s R r => h H s R fun J B1 H1 x1 w => r J B1 H1 x1 (by
  rw [List.length_zipIdx, List.length_map] at w
  rw [List.length_zipIdx]
  exact w.mono (fun _ s => s) fun i H' v H'' _ _ ⟨sy, it, B2, e, x, g⟩ => by
    rw [List.getElem?_zipIdx, List.getElem?_map] at e
    cases e2 : l[i]? with
    | none =>
      rw [e2] at e
      cases e
    | some a =>
      rw [e2] at e
      cases e
      exact ⟨sy, (a, i), B2, by rw [List.getElem?_zipIdx, e2]; simp, by simpa using x, by simpa using g⟩)
/-- zip of two lists -/
theorem sn_zip {ds es : List PyData} {e2 : Expr} {elts : List Expr} {kk : Nat} {tpos : Pos} (hm : X.mg "zip" = none) (h : EV X e σ B (dt X.K (.list ds))) (h2 : EV X e2 σ B (dt X.K (.list es))) (hl : ds.length = es.length) (hg : Gl X "zip" := by rfl)
    (hs : starEach [e, e2] X.env = (false, eval e X.env) :: starEach [e2] X.env := by rfl) (hpl : (backTo pos (starEach [e2] X.env)).any (·.1) = false := by rfl) (hs2 : starEach [e2] X.env = (false, eval e2 X.env) :: starEach [] X.env := by rfl) :
    SN X (.Tuple elts kk tpos) (.Call (.Name "zip" p) [e, e2] [] pos) σ B (ds.zip es) fun q => prM (dt X.K q.1) (dt X.K q.2) := fun H s R r => i_of (pi_zip hg hm (pa_cons pe_w (pa_cons pe_w pa_nil hs2) hs) hs hpl) (h H s _ fun v B1 H1 x1 pv => EV.mono x1.b h2 H1 x1.s _ fun u B2 H2 x2 pu => by
  obtain ⟨a, xs, rfl, hl1, hd1⟩ := dp_l pv
  obtain ⟨b, ys, rfl, hl2, hd2⟩ := dp_l pu
  have hl1 := same_l x2.b hl1
  have hd1 := dpa_same x2.b hd1
  refine ⟨a, b, xs, ys, rfl, same_l x2.s hl1, same_l x2.s hl2, r _ _ _ (x1.trans x2) ?_⟩
  have e1 := dpa_len hd1
  have e2 := dpa_len hd2
  exact (walk_zip (xs := xs) (ys := ys) (by rw [List.length_zip]; omega)).mono (fun H' s => ⟨same_l s hl1, same_l s hl2⟩) fun i H' x H'' _ s y => by
    obtain ⟨T, u, z, rfl, nT, rfl, q1, q2⟩ := y
    obtain ⟨d, e3, g1⟩ := dpa_at hd1 q1
    obtain ⟨d', e4, g2⟩ := dpa_at hd2 q2
    have x3 := (Nx.refl s).put (o := .tup [u, z]) nT
    exact ⟨x3.h, (d, d'), _, by rw [List.getElem?_zip_eq_some]; exact ⟨e3, e4⟩, x3, T, u, z, rfl, upd_same, dp_same x3.b g1, dp_same x3.b g2⟩)
end

/-! ### targets: names -/
def TJ (X : Cx) (tg : Expr) (σ : L2.St) (v : V) (H : Hp) (σ' : L2.St) : Prop := ∀ Q : L2.St → Hp → Prop, Q σ' H → wG X tg v σ H Q
section
variable {X : Cx} {σ : L2.St} {H : Hp} {pos p1 p2 : Pos}
theorem tj_name (i : Nat) {x : Str} {v : V} (hnd : X.N.Nodup) (hN : X.N[i]? = some x := by rfl) (hx : Loc X.env.scope x := by first | exact .inl rfl | exact .inr rfl) (hf : X.fn x = true ∨ X.env.scope.names.lookup x = some .local := by first | exact .inl rfl | exact .inr rfl) : TJ X (.Name x pos) σ v H (σ.set i (some v)) :=
  fun Q q => g_of (pg_name hnd hN hx hf) q
theorem tj_pair (i j : Nat) {x y : Str} {T : Addr} {a b : V} {kk : Nat} (hc : X.calm = true) (hnd : X.N.Nodup) (hT : H T = some (.tup [a, b])) (hN : X.N[i]? = some x := by rfl) (hM : X.N[j]? = some y := by rfl) (hx : Loc X.env.scope x := by first | exact .inl rfl | exact .inr rfl)
    (hy : Loc X.env.scope y := by first | exact .inl rfl | exact .inr rfl) (hf : X.fn x = true ∨ X.env.scope.names.lookup x = some .local := by first | exact .inl rfl | exact .inr rfl) (hf2 : X.fn y = true ∨ X.env.scope.names.lookup y = some .local := by first | exact .inl rfl | exact .inr rfl) :
    TJ X (.Tuple [.Name x p1, .Name y p2] kk pos) σ (.ref T) H ((σ.set i (some a)).set j (some b)) :=
  fun Q q => g_of (pg_tup hc (pgs_cons (pg_name hnd hN hx hf) (pgs_cons (pg_name hnd hM hy hf2) pgs_nil))) ⟨T, [a, b], rfl, .inl (.inl hT), rfl, a, [b], rfl, b, [], rfl, rfl, q⟩
/-- .. of data that are a tuple of two -/
theorem tj_two (i j : Nat) {x y : Str} {T : Addr} {a b : V} {kk : Nat} (hc : X.calm = true) (hnd : X.N.Nodup) (hT : SqT X.K H T [a, b]) (hN : X.N[i]? = some x := by rfl) (hM : X.N[j]? = some y := by rfl) (hx : Loc X.env.scope x := by first | exact .inl rfl | exact .inr rfl)
    (hy : Loc X.env.scope y := by first | exact .inl rfl | exact .inr rfl) (hf : X.fn x = true ∨ X.env.scope.names.lookup x = some .local := by first | exact .inl rfl | exact .inr rfl) (hf2 : X.fn y = true ∨ X.env.scope.names.lookup y = some .local := by first | exact .inl rfl | exact .inr rfl) :
    TJ X (.Tuple [.Name x p1, .Name y p2] kk pos) σ (.ref T) H ((σ.set i (some a)).set j (some b)) :=
  fun Q q => g_of (pg_tup hc (pgs_cons (pg_name hnd hN hx hf) (pgs_cons (pg_name hnd hM hy hf2) pgs_nil))) ⟨T, [a, b], rfl, hT, rfl, a, [b], rfl, b, [], rfl, rfl, q⟩
theorem dp_t2 {K : PySem.W.Frag} {v : V} {d e : PyData} (h : Dp K H v (.tuple [d, e])) : ∃ T a b, v = .ref T ∧ SqT K H T [a, b] ∧ Dp K H a d ∧ Dp K H b e := by
  obtain ⟨T, xs, rfl, hq, hd⟩ := dp_t h
  cases hd with
  | cons h1 h2 =>
    cases h2 with
    | cons h3 h4 =>
      cases h4
      exact ⟨T, _, _, rfl, hq, h1, h3⟩
end

/-! ### comprehensions -/
structure Bz where
  s : Shared
  H : Hp
  C : Addr
  cl : List (Str × Addr)
  fp : List Addr
abbrev bx (X : Cx) (scope : Scope) (z : Bz) : Cx := X.blk z.s z.H scope (compEnvC scope z.cl z.C X.env) z.fp
@[irreducible] def wTs (X : Cx) (ifs : List Expr) : TT := fun σ H Q => ∀ (pins : List (Addr × Obj)) (s : Shared), Inv X pins σ H s →
  wpAny (model X.prog X.w) X.A (forIn ifs true fun c r => if r = true then do let ok ← isTrue c X.env (eval c X.env); pure (ForInStep.yield ok) else pure (ForInStep.yield r)) (TP X pins σ Q) X.xe s
theorem wTs_i {X : Cx} {ifs : List Expr} {σ : L2.St} {H : Hp} {Q : Bool → Hp → Prop} (h : ∀ (pins : List (Addr × Obj)) (s : Shared), Inv X pins σ H s →
  wpAny (model X.prog X.w) X.A (forIn ifs true fun c r => if r = true then do let ok ← isTrue c X.env (eval c X.env); pure (ForInStep.yield ok) else pure (ForInStep.yield r)) (TP X pins σ Q) X.xe s) : wTs X ifs σ H Q := by
  unfold wTs
  exact h
theorem wTs_o {X : Cx} {ifs : List Expr} {σ : L2.St} {H : Hp} {Q : Bool → Hp → Prop} (h : wTs X ifs σ H Q) : ∀ (pins : List (Addr × Obj)) (s : Shared), Inv X pins σ H s →
  wpAny (model X.prog X.w) X.A (forIn ifs true fun c r => if r = true then do let ok ← isTrue c X.env (eval c X.env); pure (ForInStep.yield ok) else pure (ForInStep.yield r)) (TP X pins σ Q) X.xe s := by
  unfold wTs at h
  exact h
def ETs (X : Cx) (ifs : List Expr) (σ : L2.St) (B : Hp) (b : Bool) : Prop := ∀ H, Same B H → ∀ Q : Bool → Hp → Prop, (∀ B1 H1, Nx B H B1 H1 → Q b H1) → wTs X ifs σ H Q
theorem ets_nil {X : Cx} {σ : L2.St} {B : Hp} : ETs X [] σ B true := fun H s Q q => wTs_i fun pins s' I => (pts_nil (X := X)).run pins s' σ H Q I (q B H (Nx.refl s))
theorem ets_one {X : Cx} {c : Expr} {σ : L2.St} {B : Hp} {b : Bool} (h : ET X c σ B b) : ETs X [c] σ B b := fun H s Q q => wTs_i fun pins s' I => (pts_one (pt_w (X := X) (e := c))).run pins s' σ H Q I (h H s Q q)
/-- all blocks of one comprehension at once -/
def wGz (X : Cx) (scope : Scope) (tg : Expr) : TG := fun v σ H Q => ∀ z : Bz, wG (bx X scope z) tg v σ H Q
def wTz (X : Cx) (scope : Scope) (ifs : List Expr) : TT := fun σ H Q => ∀ z : Bz, wTs (bx X scope z) ifs σ H Q
def wEz (X : Cx) (scope : Scope) (elt : Expr) : TE := fun σ H Q => ∀ z : Bz, wE (bx X scope z) elt σ H Q
section
variable {X : Cx} {ι : Type} {elt tg iter : Expr} {ifs : List Expr} {scope : Scope} {own : List (Str × Nat)} {pos : Pos} {σ : L2.St} {B H : Hp} {its : List ι} {S : ι → Mp} {f : ι → Bool} {g : ι → PyData}
/-- one turn: the target takes the item, the tests answer, the element comes to its data -/
def Turn1 (X : Cx) (scope : Scope) (vs : List Nat) (tg elt : Expr) (ifs : List Expr) (σ : L2.St) (B : Hp) (S : ι → Mp) (f : ι → Bool) (g : ι → PyData) (it : ι) : Prop :=
  ∀ B', Same B B' → ∀ v, (S it).p v B' → ∃ σ', wipe σ' vs = wipe σ vs ∧ (∀ z H', Same B' H' → TJ (bx X scope z) tg (wipe σ vs) v H' σ') ∧ (∀ z, ETs (bx X scope z) ifs σ' B' (f it)) ∧ (f it = true → ∀ z, EV (bx X scope z) elt σ' B' (dt X.K (g it)))
theorem lc_read {J : It} {D : Addr} {B1 H1 : Hp} {Qd : Hp → Prop} {vs : List Nat} (hz : its.length ≤ 100000) (s0 : Same B B1) (s1 : Same B1 H1) (w : Walk J its.length (fun H' => Same B1 H') (fun i H' v H'' => Same H' H'' ∧ ∃ it B2, its[i]? = some it ∧ Nx B1 H' B2 H'' ∧ (S it).p v B2)) (hD : H1 D = none)
    (turn : ∀ it ∈ its, Turn1 X scope vs tg elt ifs σ B S f g it) (hd : ∀ B' H' acc, Nx B1 H1 B' H' → H' D = some (.lst acc) → B' D = none → DpAll X.K B' acc ((its.filter f).map g) → Qd H') :
    ∃ W : Nat → Nat → Hp → Prop, (∃ m, W 0 m (upd H1 D (.lst []))) ∧ ∀ i m H, W i m H →
      (J.stop i H ∧ Qd H) ∨ (J.go i H ∧ ∃ Nx : Hp → Prop, (∀ H', Nx H' → ∃ m', m' < m ∧ W (i + 1) m' H') ∧ ∀ x H', J.yld i H x H' → wGz X scope tg x (wipe σ vs) H' fun σ2 H2 => wipe σ2 vs = wipe σ vs ∧ wTz X scope ifs σ2 H2 fun b H3 =>
        if b = true then wEz X scope elt σ2 H3 fun y H4 => ∃ acc, H4 D = some (.lst acc) ∧ acc.length < sizeLine ∧ Nx (upd H4 D (.lst (acc ++ [y]))) else Nx H3) := by
  have b1D : B1 D = none := by
    cases e : B1 D with
    | none => rfl
    | some o =>
      rw [s1 _ _ e] at hD
      cases hD
  refine lc_it w (fun i H' => ∃ B' acc, Nx B1 H1 B' H' ∧ B' D = none ∧ H' D = some (.lst acc) ∧ DpAll X.K B' acc (((its.take i).filter f).map g)) ?_ ?_ ?_ ?_
  · exact ⟨B1, [], (Nx.refl s1).hid hD b1D, b1D, upd_same, by rw [List.take_zero]; exact .nil⟩
  · rintro i H' _ ⟨B', acc, x, _⟩
    exact x.b.trans x.s
  · rintro i x H' H'' hi ⟨B', acc, xn, bD, hl, hda⟩ ⟨sy, it, B2, hit, xy, hS⟩ z
    have hmem : it ∈ its := List.mem_of_getElem? hit
    obtain ⟨B3, x3, s3⟩ := xy.more xn.b xn.s
    have hl3 : H'' D = some (.lst acc) := sy _ _ hl
    have b3D : B3 D = none := (x3.o D (by rw [hl]; exact fun z => by cases z)).trans bD
    have xt := xn.trans x3
    have hda3 := dpa_same x3.b hda
    obtain ⟨σ', hw, hTJ, hT, hE⟩ := turn it hmem B3 (s0.trans xt.b) x ((S it).mono s3 hS)
    refine hTJ z H'' x3.s _ ⟨hw, ?_⟩
    intro z2
    have tk : (its.take (i + 1)).filter f = (its.take i).filter f ++ (if f it = true then [it] else []) := by
      rw [List.take_add_one, hit, List.filter_append]
      congr 1
      by_cases hf : f it = true <;> simp [hf]
    have hlen : acc.length < 100001 := by
      have h1 := dpa_len hda
      rw [List.length_map] at h1
      have h2 := List.length_filter_le f (its.take i)
      rw [List.length_take] at h2
      omega
    refine hT z2 H'' x3.s _ fun B4 H4 x4 => ?_
    have b4D : B4 D = none := (x4.o D (by rw [hl3]; exact fun z => by cases z)).trans b3D
    have hl4 : H4 D = some (.lst acc) := x4.h _ _ hl3
    by_cases hf : f it = true
    · rw [hf]
      refine iteT ?_
      intro z3
      refine EV.mono x4.b (hE hf z3) H4 x4.s _ fun y B5 H5 x5 py => ?_
      have b5D : B5 D = none := (x5.o D (by rw [hl4]; exact fun z => by cases z)).trans b4D
      have hl5 : H5 D = some (.lst acc) := x5.h _ _ hl4
      refine ⟨acc, hl5, Nat.lt_of_lt_of_le hlen (by decide), B5, acc ++ [y], (xt.trans (x4.trans x5)).hid hD b5D, b5D, upd_same, ?_⟩
      rw [tk, if_pos hf, List.map_append]
      exact dpa_snoc (dpa_same x5.b (dpa_same x4.b hda3)) py
    · have hf' : f it = false := by simpa using hf
      rw [hf']
      refine iteF ⟨B4, acc, xt.trans x4, b4D, hl4, ?_⟩
      rw [tk, if_neg hf, List.append_nil]
      exact dpa_same x4.b hda3
  · rintro H' ⟨B', acc, x, bD, hl, hda⟩
    rw [List.take_length] at hda
    exact hd B' H' acc x hl bD hda
theorem ev_lc (hc : X.calm = true) (hN : X.N.Nodup) (ok : BlkOk X.N X.env.scope scope own) (src : SN X tg iter σ B its S) (hz : its.length ≤ 100000) (turn : ∀ it ∈ its, Turn1 X scope (own.map (·.2)) tg elt ifs σ B S f g it)
    (hs : ∀ x, foldedSetIterable iter X.env x = pure x := by intro _; rfl) : EV X (.ListComp elt [⟨tg, iter, ifs, 0⟩] scope pos) σ B (dt X.K (.list ((its.filter f).map g))) :=
  ev_of (pe_lc (g := wGz X scope tg) (tt := wTz X scope ifs) (te := wEz X scope elt) hc hN pi_w ok (fun s H C cl fp => ⟨fun pins s' σ' H' v u Q I r h => wG_o (h ⟨s, H, C, cl, fp⟩) pins s' u I r⟩)
      (fun s H C cl fp => ⟨fun pins s' σ' H' Q I h => wTs_o (h ⟨s, H, C, cl, fp⟩) pins s' I⟩) (fun s H C cl fp => ⟨fun pins s' σ' H' Q I h => wE_o (h ⟨s, H, C, cl, fp⟩) pins s' I⟩) hs)
    fun H s Q q => src H s _ fun J B1 H1 x1 w D hD => lc_read hz x1.b x1.s w hD turn fun B' H' acc x hl bD hda => q _ (upd B' D (.lst acc)) H' (x1.trans (x.see hD bD hl)) (.lst (.inl (.inl upd_same)) (dpa_same (same_new bD) hda))
/-- y = [..] -/
theorem s_lc {i : Nat} {y : Str} {py spos : Pos} {D : Ends} (hc : X.calm = true) (hN : X.N.Nodup) (hy : X.N[i]? = some y) (hyl : X.env.scope.names.lookup y = some .local) (hsw : swapsWith (.ListComp elt [⟨tg, iter, ifs, 0⟩] scope pos) (some (.Name y py)) spos.line X.env = pure true)
    (ok : BlkOk X.N X.env.scope scope own) (src : SN X tg iter σ B its S) (hz : its.length ≤ 100000) (turn : ∀ it ∈ its, Turn1 X scope (own.map (·.2)) tg elt ifs σ B S f g it) (sb : Same B H)
    (k : ∀ v B1 H1, Nx B H B1 H1 → Dp X.K B1 v (.list ((its.filter f).map g)) → D.nx (σ.set i (some v)) H1) (hs : ∀ x, foldedSetIterable iter X.env x = pure x := by intro _; rfl) : wS X (.Assign [.Name y py] (.ListComp elt [⟨tg, iter, ifs, 0⟩] scope pos) spos) D σ H :=
  s_of (ps_setLc (g := wGz X scope tg) (tt := wTz X scope ifs) (te := wEz X scope elt) hc hN hy hyl hsw pi_w ok (fun s H C cl fp => ⟨fun pins s' σ' H' v u Q I r h => wG_o (h ⟨s, H, C, cl, fp⟩) pins s' u I r⟩)
      (fun s H C cl fp => ⟨fun pins s' σ' H' Q I h => wTs_o (h ⟨s, H, C, cl, fp⟩) pins s' I⟩) (fun s H C cl fp => ⟨fun pins s' σ' H' Q I h => wE_o (h ⟨s, H, C, cl, fp⟩) pins s' I⟩) hs)
    (src H sb _ fun J B1 H1 x1 w D hD => lc_read hz x1.b x1.s w hD turn fun B' H' acc x hl bD hda => k _ (upd B' D (.lst acc)) H' (x1.trans (x.see hD bD hl)) (.lst (.inl (.inl upd_same)) (dpa_same (same_new bD) hda)))
theorem filter_all {α : Type} (l : List α) : l.filter (fun _ => true) = l := List.filter_eq_self.mpr fun _ _ => rfl
/-- .. without tests -/
theorem ev_lcM (hc : X.calm = true) (hN : X.N.Nodup) (ok : BlkOk X.N X.env.scope scope own) (src : SN X tg iter σ B its S) (hz : its.length ≤ 100000)
    (turn : ∀ it ∈ its, ∀ B', Same B B' → ∀ v, (S it).p v B' → ∃ σ', wipe σ' (own.map (·.2)) = wipe σ (own.map (·.2)) ∧ (∀ z H', Same B' H' → TJ (bx X scope z) tg (wipe σ (own.map (·.2))) v H' σ') ∧ ∀ z, EV (bx X scope z) elt σ' B' (dt X.K (g it)))
    (hs : ∀ x, foldedSetIterable iter X.env x = pure x := by intro _; rfl) : EV X (.ListComp elt [⟨tg, iter, [], 0⟩] scope pos) σ B (dt X.K (.list (its.map g))) :=
  EV.is (ev_lc (f := fun _ => true) hc hN ok src hz (fun it h B' s v hv => by
    obtain ⟨σ', h1, h2, h3⟩ := turn it h B' s v hv
    exact ⟨σ', h1, h2, fun _ => ets_nil, fun _ => h3⟩) hs) (by rw [filter_all])
theorem s_lcM {i : Nat} {y : Str} {py spos : Pos} {D : Ends} (hc : X.calm = true) (hN : X.N.Nodup) (hy : X.N[i]? = some y) (hyl : X.env.scope.names.lookup y = some .local) (hsw : swapsWith (.ListComp elt [⟨tg, iter, [], 0⟩] scope pos) (some (.Name y py)) spos.line X.env = pure true)
    (ok : BlkOk X.N X.env.scope scope own) (src : SN X tg iter σ B its S) (hz : its.length ≤ 100000)
    (turn : ∀ it ∈ its, ∀ B', Same B B' → ∀ v, (S it).p v B' → ∃ σ', wipe σ' (own.map (·.2)) = wipe σ (own.map (·.2)) ∧ (∀ z H', Same B' H' → TJ (bx X scope z) tg (wipe σ (own.map (·.2))) v H' σ') ∧ ∀ z, EV (bx X scope z) elt σ' B' (dt X.K (g it))) (sb : Same B H)
    (k : ∀ v B1 H1, Nx B H B1 H1 → Dp X.K B1 v (.list (its.map g)) → D.nx (σ.set i (some v)) H1) (hs : ∀ x, foldedSetIterable iter X.env x = pure x := by intro _; rfl) : wS X (.Assign [.Name y py] (.ListComp elt [⟨tg, iter, [], 0⟩] scope pos) spos) D σ H :=
  s_lc (f := fun _ => true) hc hN hy hyl hsw ok src hz (fun it h B' s v hv => by
    obtain ⟨σ', h1, h2, h3⟩ := turn it h B' s v hv
    exact ⟨σ', h1, h2, fun _ => ets_nil, fun _ => h3⟩) sb (fun v B1 H1 x p => k v B1 H1 x (by rw [filter_all] at p; exact p)) hs
end
end K7
/-! The layer, third part: statements; numbers, places, slices, lengths, equality. -/
namespace K7
open PySem PySem.Spec PyProof.Rows L2

/-! ### statements -/
section
variable {X : Cx} {e e1 e2 c tg iter : Expr} {es : List Expr} {body orelse rest : List Stmt} {D : Ends} {σ : L2.St} {B H : Hp} {P P1 P2 : Mp} {pos p1 p2 : Pos} {x y : Str} {i j : Nat}
theorem s_set (i : Nat) (hnd : X.N.Nodup) (sb : Same B H) (he : EV X e σ B P) (k : ∀ v B1 H1, Nx B H B1 H1 → P.p v B1 → D.nx (σ.set i (some v)) H1) (hN : X.N[i]? = some x := by rfl) (hx : Loc X.env.scope x := by first | exact .inl rfl | exact .inr rfl)
    (hs : swapsWith e (some (.Name x p1)) pos.line X.env = pure false := by rfl) (hf : X.fn x = true ∨ X.env.scope.names.lookup x = some .local := by first | exact .inl rfl | exact .inr rfl) : wS X (.Assign [.Name x p1] e pos) D σ H :=
  s_of (ps_set hnd hN hx pe_w hs hf) (he H sb _ k)
/-- a, b = e1, e2 (local names) -/
theorem s_par (i j : Nat) {kt k2 : Nat} {pt pt2 : Pos} (hc : X.calm = true) (hnd : X.N.Nodup) (hij : i ≠ j) (sb : Same B H) (ha : EA X [e1, e2] σ B [P1, P2]) (k : ∀ v w B1 H1, Nx B H B1 H1 → P1.p v B1 → P2.p w B1 → D.nx ((σ.set i (some v)).set j (some w)) H1)
    (hN : X.N[i]? = some x := by rfl) (hM : X.N[j]? = some y := by rfl) (hx : X.env.scope.names.lookup x = some .local := by rfl) (hy : X.env.scope.names.lookup y = some .local := by rfl)
    (hw : swappedStores [.Tuple [.Name x p1, .Name y p2] kt pt] (.Tuple [e1, e2] k2 pt2) X.env = pure (some [x, y]) := by rfl)
    (hs : swapsWithSole [.Tuple [.Name x p1, .Name y p2] kt pt] (.Tuple [e1, e2] k2 pt2) pos.line X.env = pure false := by rfl) :
    wS X (.Assign [.Tuple [.Name x p1, .Name y p2] kt pt] (.Tuple [e1, e2] k2 pt2) pos) D σ H :=
  s_of (ps_par hc hnd hN hM hij hx hy pa_w hw hs) (ha H sb _ fun vs B1 H1 x1 pv => by
    obtain ⟨v, w, rfl, h1, h2⟩ := allM2 pv
    exact ⟨v, w, rfl, k v w B1 H1 x1 h1 h2⟩)
/-- .. where one of the names is a cell: by way of a tuple -/
theorem s_parT (i j : Nat) {kt k2 : Nat} {pt pt2 : Pos} {d1 d2 : PyData} (hc : X.calm = true) (hnd : X.N.Nodup) (sb : Same B H) (ha : EA X [e1, e2] σ B [dt X.K d1, dt X.K d2]) (k : ∀ v w B1 H1, Nx B H B1 H1 → Dp X.K B1 v d1 → Dp X.K B1 w d2 → D.nx ((σ.set i (some v)).set j (some w)) H1)
    (hN : X.N[i]? = some x := by rfl) (hM : X.N[j]? = some y := by rfl) (hx : Loc X.env.scope x := by first | exact .inl rfl | exact .inr rfl) (hy : Loc X.env.scope y := by first | exact .inl rfl | exact .inr rfl)
    (hf : X.fn x = true ∨ X.env.scope.names.lookup x = some .local := by first | exact .inl rfl | exact .inr rfl) (hf2 : X.fn y = true ∨ X.env.scope.names.lookup y = some .local := by first | exact .inl rfl | exact .inr rfl)
    (hs : swapsWithSole [.Tuple [.Name x p1, .Name y p2] kt pt] (.Tuple [e1, e2] k2 pt2) pos.line X.env = pure false := by rfl) (hw : swappedStores [.Tuple [.Name x p1, .Name y p2] kt pt] (.Tuple [e1, e2] k2 pt2) X.env = pure none := by rfl)
    (h1 : (assignEach [.Tuple [.Name x p1, .Name y p2] kt pt] X.env).map (·.2) = [assign (.Tuple [.Name x p1, .Name y p2] kt pt) X.env] := by rfl) :
    wS X (.Assign [.Tuple [.Name x p1, .Name y p2] kt pt] (.Tuple [e1, e2] k2 pt2) pos) D σ H :=
  s_of (ps_asg (pe_w (e := .Tuple [e1, e2] k2 pt2)) (pg_tup hc (pgs_cons (pg_name hnd hN hx hf) (pgs_cons (pg_name hnd hM hy hf2) pgs_nil))) hs hw h1) (ev_tup (ds := [d1, d2]) ha (show 2 ≤ 100000 by decide) H sb _ fun v B1 H1 x1 pv => by
    obtain ⟨T, a, b, rfl, hq, g1, g2⟩ := dp_t2 pv
    exact ⟨T, [a, b], rfl, same_t x1.s hq, rfl, a, [b], rfl, b, [], rfl, rfl, k a b B1 H1 x1 g1 g2⟩)
/-- x = [] , a list to be written -/
theorem s_new (i : Nat) (hnd : X.N.Nodup) {pe : Pos} (k : ∀ p, H p = none → D.nx (σ.set i (some (.ref p))) (upd H p (.lst []))) (hN : X.N[i]? = some x := by rfl) (hx : Loc X.env.scope x := by first | exact .inl rfl | exact .inr rfl)
    (hs : swapsWith (.List [] pe) (some (.Name x p1)) pos.line X.env = pure false := by rfl) (hf : X.fn x = true ∨ X.env.scope.names.lookup x = some .local := by first | exact .inl rfl | exact .inr rfl) : wS X (.Assign [.Name x p1] (.List [] pe) pos) D σ H :=
  s_of (ps_set hnd hN hx (pe_lst pa_nil) hs hf) ⟨Nat.zero_le _, k⟩
theorem s_parNew (i j : Nat) {kt k2 : Nat} {pt pt2 pe : Pos} (hc : X.calm = true) (hnd : X.N.Nodup) (hij : i ≠ j) (sb : Same B H) (ha : EV X e1 σ B P1) (k : ∀ v p B1 H1, Nx B H B1 H1 → P1.p v B1 → H1 p = none → D.nx ((σ.set i (some v)).set j (some (.ref p))) (upd H1 p (.lst [])))
    (hN : X.N[i]? = some x := by rfl) (hM : X.N[j]? = some y := by rfl) (hx : X.env.scope.names.lookup x = some .local := by rfl) (hy : X.env.scope.names.lookup y = some .local := by rfl)
    (hw : swappedStores [.Tuple [.Name x p1, .Name y p2] kt pt] (.Tuple [e1, .List [] pe] k2 pt2) X.env = pure (some [x, y]) := by rfl)
    (hs : swapsWithSole [.Tuple [.Name x p1, .Name y p2] kt pt] (.Tuple [e1, .List [] pe] k2 pt2) pos.line X.env = pure false := by rfl)
    (q1 : starEach [e1, .List [] pe] X.env = (false, eval e1 X.env) :: starEach [.List [] pe] X.env := by rfl) (q2 : starEach [.List [] pe] X.env = (false, eval (.List [] pe) X.env) :: starEach [] X.env := by rfl) :
    wS X (.Assign [.Tuple [.Name x p1, .Name y p2] kt pt] (.Tuple [e1, .List [] pe] k2 pt2) pos) D σ H :=
  s_of (ps_par hc hnd hN hM hij hx hy (pa_cons pe_w (pa_cons (pe_lst pa_nil) pa_nil q2) q1) hw hs) (ha H sb _ fun v B1 H1 x1 pv => ⟨Nat.zero_le _, fun p hp => ⟨v, .ref p, rfl, k v p B1 H1 x1 pv hp⟩⟩)
theorem s_ret (sb : Same B H) (he : EV X e σ B P) (k : ∀ v B1 H1, Nx B H B1 H1 → P.p v B1 → D.rt v H1) : wS X (.Return (some e) pos) D σ H := s_of (ps_ret pe_w) (he H sb _ k)
/-- return, by a body's own ends -/
theorem s_retD {B0 H0 : Hp} {R : Mp} (x0 : Nx B0 H0 B H) (he : EV X e σ B R) (hD : ∀ v H', (∃ B', Nx B0 H0 B' H' ∧ R.p v B') → D.rt v H' := by exact fun _ _ h => h) : wS X (.Return (some e) pos) D σ H := s_ret x0.s he fun v B1 H1 x1 p => hD v H1 ⟨B1, x0.trans x1, p⟩
theorem s_expr (sb : Same B H) (he : EV X e σ B P) (k : ∀ v B1 H1, Nx B H B1 H1 → P.p v B1 → D.nx σ H1) (hs : swapsWith e none pos.line X.env = pure false := by rfl) : wS X (.Expr e pos) D σ H := s_of (ps_expr pe_w hs) (he H sb _ k)
theorem s_if {b : Bool} (sb : Same B H) (hc : ET X c σ B b) (h1 : b = true → ∀ B1 H1, Nx B H B1 H1 → wB X body D σ H1) (h2 : b = false → ∀ B1 H1, Nx B H B1 H1 → wB X orelse D σ H1) : wS X (.If c body orelse pos) D σ H :=
  s_of (ps_if pt_w pb_w pb_w) (hc H sb _ fun B1 H1 x1 => by
    cases b with
    | true => exact iteT (h1 rfl B1 H1 x1)
    | false => exact iteF (h2 rfl B1 H1 x1))
/-- an if that is not taken -/
theorem s_skip (sb : Same B H) (hc : ET X c σ B false) (k : ∀ B1 H1, Nx B H B1 H1 → D.nx σ H1) : wS X (.If c body [] pos) D σ H := s_of (ps_if pt_w pss_never pb_w) (hc H sb _ fun B1 H1 x1 => iteF (b_nil (k B1 H1 x1)))
theorem s_take (sb : Same B H) (hc : ET X c σ B true) (k : ∀ B1 H1, Nx B H B1 H1 → wB X body D σ H1) : wS X (.If c body orelse pos) D σ H := s_of (ps_if pt_w pb_w pss_never) (hc H sb _ fun B1 H1 x1 => iteT (k B1 H1 x1))
/-- l.append(e), l a list that is not seen -/
theorem s_app {l : Addr} {xs : List V} {n p3 p4 : Pos} (i : Nat) (sb : Same B H) (hi : σ[i]? = some (some (.ref l))) (hl : H l = some (.lst xs)) (hz : xs.length < 100000) (he : EV X e σ B P) (k : ∀ v B1 H1, Nx B H B1 H1 → P.p v B1 → D.nx σ (upd H1 l (.lst (xs ++ [v]))))
    (hN : X.N[i]? = some x := by rfl) (hv : Vis X.env.scope x := by first | exact Or.inl rfl | exact Or.inr (Or.inl rfl) | exact Or.inr (Or.inr rfl)) (hd : (x == ("__debug__" : Str)) = false := by decide) (hcd : (x == ("__classdict__" : Str)) = false := by decide)
    (q1 : starEach [e] X.env = (false, eval e X.env) :: starEach [] X.env := by rfl) (hbase : attributeBase (.Name x n) "append" X.env (eval (.Name x n) X.env) = eval (.Name x n) X.env := by rfl) (hline : (p3.endLine == p4.line) = true := by rfl)
    (hfew : ((backTo p4 (starEach [e] X.env)).all (fun x => !x.1) && (backToKw p4 (keywordEach [] X.env)).all (fun x => x.1.isSome) && decide ([e].length + ([] : List Keyword).length + (if ([] : List Keyword).isEmpty then 0 else 1) < 30)) = true := by rfl)
    (hs : swapsWith (.Call (.Attribute (.Name x n) "append" p3) [e] [] p4) none pos.line X.env = pure false := by rfl) : wS X (.Expr (.Call (.Attribute (.Name x n) "append" p3) [e] [] p4) pos) D σ H :=
  s_of (ps_expr (pe_bm PySem.F.plainAttrs_list PySem.F.slot_list_append PySem.F.type_list_append mt_append (pe_var hN hv hd hcd) (pa_cons pe_w pa_nil q1) hbase hfew hline q1 rfl) hs)
    ⟨.ref l, hi, .inl ⟨rfl, xs, .inl (.inl hl)⟩, he H sb _ fun v B1 H1 x1 pv => ⟨l, xs, v, rfl, rfl, x1.h _ _ hl, Nat.lt_of_lt_of_le hz (by decide), k v B1 H1 x1 pv⟩⟩
/-- for tg in iter -/
theorem s_for {ι : Type} {its : List ι} {S : ι → Mp} (hp : PassesOwn (model X.prog X.w) X.A X.env X.xe) (hc : X.calm = true) (src : SN X tg iter σ B its S) (sb : Same B H) (Pv : Nat → L2.St → Hp → Hp → Prop) (h0 : ∀ B1 H1, Nx B H B1 H1 → Pv 0 σ B1 H1)
    (turn : ∀ i it σ' B' H' B2 H2 v, its[i]? = some it → Pv i σ' B' H' → Nx B' H' B2 H2 → (S it).p v B2 → ∃ σ2, TJ X tg σ' v H2 σ2 ∧
      wB X body { D with nx := fun σ3 H3 => ∃ B3, Same B2 B3 ∧ Same B3 H3 ∧ Pv (i + 1) σ3 B3 H3, ct := fun σ3 H3 => ∃ B3, Same B2 B3 ∧ Same B3 H3 ∧ Pv (i + 1) σ3 B3 H3, bk := D.nx } σ2 H2)
    (done : ∀ σ' B' H', Same B B' → Same B' H' → Pv its.length σ' B' H' → D.nx σ' H') (hs : ∀ x, foldedSetIterable iter X.env x = pure x := by intro _; rfl) : wS X (.For tg iter body [] pos) D σ H :=
  s_of (ps_for hp hc pi_w pg_w pb_w hs) (src H sb _ fun J B1 H1 x1 w => for_it w (fun i σ' H' => ∃ B', Same B1 B' ∧ Same B' H' ∧ Pv i σ' B' H') ⟨B1, Same.refl _, x1.s, h0 B1 H1 x1⟩ (fun i σ' H' _ ⟨B', s1, s2, _⟩ => s1.trans s2)
    (fun i v σ' H' H2 hi ⟨B', s1, s2, p⟩ ⟨sy, it, B2, hit, xy, hS⟩ => by
      obtain ⟨B3, x3, s3⟩ := xy.more s1 s2
      obtain ⟨σ2, hT, hb⟩ := turn i it σ' B' H' B3 H2 v hit p x3 ((S it).mono s3 hS)
      exact hT _ (b_imp hb (fun _ _ ⟨B4, a, b, c⟩ => ⟨B4, s1.trans (x3.b.trans a), b, c⟩) (fun _ _ z => z) (fun _ _ z => z) fun _ _ ⟨B4, a, b, c⟩ => ⟨B4, s1.trans (x3.b.trans a), b, c⟩))
    fun σ' H' ⟨B', s1, s2, p⟩ => done σ' B' H' (x1.b.trans s1) s2 p)
/-- while c -/
theorem s_while (hp : PassesOwn (model X.prog X.w) X.A X.env X.xe) (W : Nat → L2.St → Hp → Hp → Prop) (m : Nat) (sb : Same B H) (h0 : W m σ B H)
    (turn : ∀ m σ' B' H', Same B' H' → W m σ' B' H' → ∃ b, ET X c σ' B' b ∧ (b = true → ∀ B1 H1, Nx B' H' B1 H1 → wB X body { D with nx := fun σ2 H2 => ∃ m' B2, m' < m ∧ Same B2 H2 ∧ W m' σ2 B2 H2, ct := fun σ2 H2 => ∃ m' B2, m' < m ∧ Same B2 H2 ∧ W m' σ2 B2 H2, bk := D.nx } σ' H1) ∧
      (b = false → ∀ B1 H1, Nx B' H' B1 H1 → D.nx σ' H1)) : wS X (.While c body [] pos) D σ H :=
  s_of (ps_while hp pt_w pb_w) ⟨fun m σ' H' => ∃ B', Same B' H' ∧ W m σ' B' H', ⟨m, B, sb, h0⟩, fun m σ' H' ⟨B', s, w⟩ => by
    obtain ⟨b, hE, h1, h2⟩ := turn m σ' B' H' s w
    refine hE H' s _ fun B1 H1 x1 => ?_
    cases b with
    | true => exact iteT ⟨fun σ2 H2 => ∃ m' B2, m' < m ∧ Same B2 H2 ∧ W m' σ2 B2 H2, fun σ2 H2 ⟨m', B2, a, b, c⟩ => ⟨m', a, B2, b, c⟩, h1 rfl B1 H1 x1⟩
    | false => exact iteF (h2 rfl B1 H1 x1)⟩
end

/-! ### numbers -/
section
variable {X : Cx} {a b c e : Expr} {σ : L2.St} {B : Hp} {pos p : Pos} {i j k : Int}
theorem ev_intop {op : Operator} {C : Int → Int → Prop} {g : Int → Int → Int} (ho : OpR X (binaryOp op) (rI C fun i j => .int (g i j))) (ha : EV X a σ B (dt X.K (.int i))) (hb : EV X b σ B (dt X.K (.int j))) (hc : C i j) : EV X (.BinOp a op b pos) σ B (dt X.K (.int (g i j))) :=
  ev_bin ho ha hb fun x y B1 _ px py => rv_now (.int _) fun H _ Q q => ⟨i, j, dp_i px, dp_i py, hc, q⟩
theorem ev_intop0 {op : Operator} {g : Int → Int → Int} (ho : OpR X (binaryOp op) (rI0 fun i j => .int (g i j))) (ha : EV X a σ B (dt X.K (.int i))) (hb : EV X b σ B (dt X.K (.int j))) : EV X (.BinOp a op b pos) σ B (dt X.K (.int (g i j))) :=
  ev_bin ho ha hb fun x y B1 _ px py => rv_now (.int _) fun H _ Q q => ⟨i, j, dp_i px, dp_i py, q⟩
theorem ev_add (ha : EV X a σ B (dt X.K (.int i))) (hb : EV X b σ B (dt X.K (.int j))) : EV X (.BinOp a .Add b pos) σ B (dt X.K (.int (i + j))) := ev_intop0 op_add ha hb
theorem ev_sub (ha : EV X a σ B (dt X.K (.int i))) (hb : EV X b σ B (dt X.K (.int j))) : EV X (.BinOp a .Sub b pos) σ B (dt X.K (.int (i - j))) := ev_intop0 op_sub ha hb
theorem ev_mul (ha : EV X a σ B (dt X.K (.int i))) (hb : EV X b σ B (dt X.K (.int j))) (hc : CMul i j) : EV X (.BinOp a .Mult b pos) σ B (dt X.K (.int (i * j))) := ev_intop op_mul ha hb hc
theorem ev_fdiv (ha : EV X a σ B (dt X.K (.int i))) (hb : EV X b σ B (dt X.K (.int j))) (hc : CDiv i j) : EV X (.BinOp a .FloorDiv b pos) σ B (dt X.K (.int (i / j))) := ev_intop op_fdiv ha hb hc
theorem ev_mod (ha : EV X a σ B (dt X.K (.int i))) (hb : EV X b σ B (dt X.K (.int j))) (hc : 0 < j) : EV X (.BinOp a .Mod b pos) σ B (dt X.K (.int (i % j))) := ev_intop (C := fun _ j => 0 < j) op_mod ha hb hc
theorem ev_neg (ha : EV X a σ B (dt X.K (.int i))) : EV X (.UnaryOp .USub a pos) σ B (dt X.K (.int (-i))) := ev_of (pe_un un_neg pe_w) fun H s Q q => ha H s _ fun x B1 H1 x1 px => ⟨i, dp_i px, q _ B1 H1 x1 (.int _)⟩
theorem et_intop {op : CmpOp} {g : Int → Int → Bool} (ho : OpR X (compareOp op) (rI0 fun i j => .bl (g i j))) (hm : behindInMarks op b = false) (ha : EV X a σ B (dt X.K (.int i))) (hb : EV X b σ B (dt X.K (.int j))) : ET X (.Compare a [op] [b] pos) σ B (g i j) :=
  et_cmp ho hm ha hb fun x y B1 _ px py => rv_now rfl fun H _ Q q => ⟨i, j, dp_i px, dp_i py, q⟩
theorem ev_intcmp {op : CmpOp} {g : Int → Int → Bool} (ho : OpR X (compareOp op) (rI0 fun i j => .bl (g i j))) (hm : behindInMarks op b = false) (ha : EV X a σ B (dt X.K (.int i))) (hb : EV X b σ B (dt X.K (.int j))) : EV X (.Compare a [op] [b] pos) σ B (dt X.K (.bool (g i j))) :=
  ev_cmp ho hm ha hb fun x y B1 _ px py => rv_now (.bl _) fun H _ Q q => ⟨i, j, dp_i px, dp_i py, q⟩
theorem et_lt (ha : EV X a σ B (dt X.K (.int i))) (hb : EV X b σ B (dt X.K (.int j))) : ET X (.Compare a [.Lt] [b] pos) σ B (decide (i < j)) := et_intop op_lt (nomark _) ha hb
theorem et_le (ha : EV X a σ B (dt X.K (.int i))) (hb : EV X b σ B (dt X.K (.int j))) : ET X (.Compare a [.LtE] [b] pos) σ B (decide (i ≤ j)) := et_intop op_le (nomark _) ha hb
theorem et_gt (ha : EV X a σ B (dt X.K (.int i))) (hb : EV X b σ B (dt X.K (.int j))) : ET X (.Compare a [.Gt] [b] pos) σ B (decide (j < i)) := et_intop op_gt (nomark _) ha hb
theorem et_ge (ha : EV X a σ B (dt X.K (.int i))) (hb : EV X b σ B (dt X.K (.int j))) : ET X (.Compare a [.GtE] [b] pos) σ B (decide (j ≤ i)) := et_intop op_ge (nomark _) ha hb
/-- i <= a < b -/
theorem et_range (ha : EV X a σ B (dt X.K (.int i))) (hb : EV X b σ B (dt X.K (.int j))) (hc : EV X c σ B (dt X.K (.int k))) (hm : lastMarks [.LtE, .Lt] [b, c] = false := by with_unfolding_all rfl) : ET X (.Compare a [.LtE, .Lt] [b, c] pos) σ B (decide (i ≤ j) && decide (j < k)) :=
  et_of (pt_chain op_le op_lt pe_w pe_w pe_w hm) fun H s Q q => ha H s _ fun x B1 H1 x1 px => EV.mono x1.b hb H1 x1.s _ fun y B2 H2 x2 py => by
    refine ⟨i, j, dp_i px, dp_i py, decide (i ≤ j), rfl, ?_⟩
    by_cases e : i ≤ j
    · rw [decide_eq_true e] at q ⊢
      refine iteT (EV.mono (x1.b.trans x2.b) hc H2 x2.s _ fun z B3 H3 x3 pz => ⟨j, k, dp_i py, dp_i pz, decide (j < k), rfl, ?_⟩)
      have := q B3 H3 (x1.trans (x2.trans x3))
      rwa [Bool.true_and] at this
    · rw [decide_eq_false e] at q ⊢
      exact iteF ⟨false, rfl, q B2 H2 (x1.trans x2)⟩
end

/-! ### equality of data -/
def isNon : PyData → Bool
  | .none => true
  | _ => false
/-! data without truth values, nothing, dicts: equal in Python is equal here -/
mutual
def plain : Nat → PyData → Bool
  | _, .int _ => true
  | _, .str x => PyData.canLay0 (.str x)
  | n + 1, .list ds => plainAll n ds
  | n + 1, .tuple ds => plainAll n ds
  | _, _ => false
def plainAll : Nat → List PyData → Bool
  | _, [] => true
  | n, d :: ds => plain n d && plainAll n ds
end
theorem plainAll_iff {n : Nat} : ∀ {ds : List PyData}, plainAll n ds = true ↔ ∀ d ∈ ds, plain n d = true
  | [] => by simp [plainAll]
  | d :: ds => by simp [plainAll, plainAll_iff (ds := ds)]
mutual
theorem plain_lay : ∀ (n : Nat) (d : PyData), plain n d = true → d.canLay0 = true ∧ d.depth ≤ n
  | n, .int i, _ => ⟨by simp [PyData.canLay0], by simp [PyData.depth]⟩
  | n, .str x, h => ⟨by cases n <;> simpa [plain] using h, by simp [PyData.depth]⟩
  | n + 1, .list ds, h => by
    obtain ⟨h1, h2⟩ := plainAll_lay n ds (by simpa [plain] using h)
    exact ⟨by simpa [PyData.canLay0] using h1, by simp only [PyData.depth]; omega⟩
  | n + 1, .tuple ds, h => by
    obtain ⟨h1, h2⟩ := plainAll_lay n ds (by simpa [plain] using h)
    exact ⟨by simpa [PyData.canLay0] using h1, by simp only [PyData.depth]; omega⟩
  | n, .none, h => by cases n <;> simp [plain] at h
  | n, .bool _, h => by cases n <;> simp [plain] at h
  | n, .dict _, h => by cases n <;> simp [plain] at h
  | 0, .list ds, h => by simp [plain] at h
  | 0, .tuple ds, h => by simp [plain] at h
theorem plainAll_lay : ∀ (n : Nat) (ds : List PyData), plainAll n ds = true → PyData.canLayAll0 ds = true ∧ PyData.depthAll ds ≤ n
  | n, [], _ => ⟨by simp [PyData.canLayAll0], by simp [PyData.depthAll]⟩
  | n, d :: ds, h => by
    have h' : plain n d = true ∧ plainAll n ds = true := by simpa [plainAll] using h
    obtain ⟨a1, a2⟩ := plain_lay n d h'.1
    obtain ⟨b1, b2⟩ := plainAll_lay n ds h'.2
    exact ⟨by simp [PyData.canLayAll0, a1, b1], by simp only [PyData.depthAll]; omega⟩
end
theorem plain_shaped {n : Nat} {d : PyData} (h : plain n d = true) (hn : n ≤ 60) : SeqAt.shaped d = true := by
  obtain ⟨h1, h2⟩ := plain_lay n d h
  show (d.canLay0 && decide (d.depth ≤ 64)) = true
  rw [h1, decide_eq_true (by omega)]
  rfl
mutual
theorem plain_eqv : ∀ (n m : Nat) (d e : PyData), plain n d = true → plain m e = true → (PyData.eqv d e = true ↔ d = e)
  | n, m, .int i, .int j, _, _ => by simp [PyData.eqv]
  | n, m, .str x, .str y, _, _ => by simp [PyData.eqv]
  | n + 1, m + 1, .list ds, .list es, h, g => by
    have q := plainAll_eqv n m ds es (by simpa [plain] using h) (by simpa [plain] using g)
    simp only [PyData.eqv]
    rw [q]
    constructor
    · intro e; rw [e]
    · intro e; injection e
  | n + 1, m + 1, .tuple ds, .tuple es, h, g => by
    have q := plainAll_eqv n m ds es (by simpa [plain] using h) (by simpa [plain] using g)
    simp only [PyData.eqv]
    rw [q]
    constructor
    · intro e; rw [e]
    · intro e; injection e
  | n, m, .none, _, h, _ => by cases n <;> simp [plain] at h
  | n, m, .bool _, _, h, _ => by cases n <;> simp [plain] at h
  | n, m, .dict _, _, h, _ => by cases n <;> simp [plain] at h
  | 0, m, .list ds, _, h, _ => by simp [plain] at h
  | 0, m, .tuple ds, _, h, _ => by simp [plain] at h
  | n, m, _, .none, _, h => by cases m <;> simp [plain] at h
  | n, m, _, .bool _, _, h => by cases m <;> simp [plain] at h
  | n, m, _, .dict _, _, h => by cases m <;> simp [plain] at h
  | n, 0, _, .list ds, _, h => by simp [plain] at h
  | n, 0, _, .tuple ds, _, h => by simp [plain] at h
  | n, m, .int _, .str _, _, _ => by simp [PyData.eqv]
  | n, m, .int _, .list _, _, _ => by simp [PyData.eqv]
  | n, m, .int _, .tuple _, _, _ => by simp [PyData.eqv]
  | n, m, .str _, .int _, _, _ => by simp [PyData.eqv]
  | n, m, .str _, .list _, _, _ => by simp [PyData.eqv]
  | n, m, .str _, .tuple _, _, _ => by simp [PyData.eqv]
  | n, m, .list _, .int _, _, _ => by simp [PyData.eqv]
  | n, m, .list _, .str _, _, _ => by simp [PyData.eqv]
  | n, m, .list _, .tuple _, _, _ => by simp [PyData.eqv]
  | n, m, .tuple _, .int _, _, _ => by simp [PyData.eqv]
  | n, m, .tuple _, .str _, _, _ => by simp [PyData.eqv]
  | n, m, .tuple _, .list _, _, _ => by simp [PyData.eqv]
theorem plainAll_eqv : ∀ (n m : Nat) (ds es : List PyData), plainAll n ds = true → plainAll m es = true → (PyData.eqvAll ds es = true ↔ ds = es)
  | n, m, [], [], _, _ => by simp [PyData.eqvAll]
  | n, m, [], _ :: _, _, _ => by simp [PyData.eqvAll]
  | n, m, _ :: _, [], _, _ => by simp [PyData.eqvAll]
  | n, m, d :: ds, e :: es, h, g => by
    have h' : plain n d = true ∧ plainAll n ds = true := by simpa [plainAll] using h
    have g' : plain m e = true ∧ plainAll m es = true := by simpa [plainAll] using g
    have q1 := plain_eqv n m d e h'.1 g'.1
    have q2 := plainAll_eqv n m ds es h'.2 g'.2
    simp only [PyData.eqvAll, Bool.and_eq_true, q1, q2, List.cons.injEq]
end
theorem eqv_dec {n m : Nat} {d e : PyData} (h : plain n d = true) (g : plain m e = true) {p : Prop} [Decidable p] (hp : d = e ↔ p) : PyData.eqv d e = decide p := by
  have q := plain_eqv n m d e h g
  by_cases hd : p
  · rw [decide_eq_true hd]
    exact q.mpr (hp.mpr hd)
  · rw [decide_eq_false hd]
    cases z : PyData.eqv d e with
    | false => rfl
    | true => exact absurd (hp.mp (q.mp z)) hd
section
variable {X : Cx} {a b c e : Expr} {σ : L2.St} {B : Hp} {pos p : Pos} {d d' : PyData} {ds : List PyData} {n m : Nat}
theorem et_eq {q : Prop} [Decidable q] (hu : X.A.units + 64 < cLine) (ha : EV X a σ B (dt X.K d)) (hb : EV X b σ B (dt X.K d')) (h1 : plain n d = true) (h2 : plain m d' = true) (hn : n ≤ 60) (hm : m ≤ 60) (hq : d = d' ↔ q) : ET X (.Compare a [.Eq] [b] pos) σ B (decide q) :=
  et_cmp (op_eqD hu) (nomark _) ha hb fun x y B1 _ px py => rv_now rfl fun H s Q q => ⟨d, d', dp_same s px, dp_same s py, plain_shaped h1 hn, plain_shaped h2 hm, by rw [eqv_dec h1 h2 hq]; exact q⟩
theorem et_ne {q : Prop} [Decidable q] (hu : X.A.units + 64 < cLine) (ha : EV X a σ B (dt X.K d)) (hb : EV X b σ B (dt X.K d')) (h1 : plain n d = true) (h2 : plain m d' = true) (hn : n ≤ 60) (hm : m ≤ 60) (hq : d = d' ↔ q) : ET X (.Compare a [.NotEq] [b] pos) σ B (!decide q) :=
  et_cmp (op_neD hu) (nomark _) ha hb fun x y B1 _ px py => rv_now rfl fun H s Q q => ⟨d, d', dp_same s px, dp_same s py, plain_shaped h1 hn, plain_shaped h2 hm, by rw [eqv_dec h1 h2 hq]; exact q⟩
theorem ev_eq {q : Prop} [Decidable q] (hu : X.A.units + 64 < cLine) (ha : EV X a σ B (dt X.K d)) (hb : EV X b σ B (dt X.K d')) (h1 : plain n d = true) (h2 : plain m d' = true) (hn : n ≤ 60) (hm : m ≤ 60) (hq : d = d' ↔ q) : EV X (.Compare a [.Eq] [b] pos) σ B (dt X.K (.bool (decide q))) :=
  ev_cmp (op_eqD hu) (nomark _) ha hb fun x y B1 _ px py => rv_now (.bl _) fun H s Q q => ⟨d, d', dp_same s px, dp_same s py, plain_shaped h1 hn, plain_shaped h2 hm, by rw [eqv_dec h1 h2 hq]; exact q⟩
theorem ev_ne {q : Prop} [Decidable q] (hu : X.A.units + 64 < cLine) (ha : EV X a σ B (dt X.K d)) (hb : EV X b σ B (dt X.K d')) (h1 : plain n d = true) (h2 : plain m d' = true) (hn : n ≤ 60) (hm : m ≤ 60) (hq : d = d' ↔ q) : EV X (.Compare a [.NotEq] [b] pos) σ B (dt X.K (.bool (!decide q))) :=
  ev_cmp (op_neD hu) (nomark _) ha hb fun x y B1 _ px py => rv_now (.bl _) fun H s Q q => ⟨d, d', dp_same s px, dp_same s py, plain_shaped h1 hn, plain_shaped h2 hm, by rw [eqv_dec h1 h2 hq]; exact q⟩
/-- texts -/
theorem et_eqS {x y : Str} (ha : EV X a σ B (dt X.K (.str x))) (hb : EV X b σ B (dt X.K (.str y))) : ET X (.Compare a [.Eq] [b] pos) σ B (decide (x = y)) :=
  et_cmp op_eq (nomark _) ha hb fun u v B1 _ px py => rv_now rfl fun H s Q q => by
    rw [dp_s px, dp_s py]
    refine ⟨rfl, ?_⟩
    have e : decide (V.str x = V.str y) = decide (x = y) := by simp
    rw [e]
    exact q
theorem et_neS {x y : Str} (ha : EV X a σ B (dt X.K (.str x))) (hb : EV X b σ B (dt X.K (.str y))) : ET X (.Compare a [.NotEq] [b] pos) σ B (!decide (x = y)) :=
  et_cmp op_ne (nomark _) ha hb fun u v B1 _ px py => rv_now rfl fun H s Q q => by
    rw [dp_s px, dp_s py]
    refine ⟨rfl, ?_⟩
    have e : decide (V.str x = V.str y) = decide (x = y) := by simp
    rw [e]
    exact q
/-- whole numbers -/
theorem et_eqI {i j : Int} (ha : EV X a σ B (dt X.K (.int i))) (hb : EV X b σ B (dt X.K (.int j))) : ET X (.Compare a [.Eq] [b] pos) σ B (decide (i = j)) :=
  et_cmp op_eq (nomark _) ha hb fun u v B1 _ px py => rv_now rfl fun H s Q q => by
    rw [dp_i px, dp_i py]
    refine ⟨rfl, ?_⟩
    have e : decide (V.int i = V.int j) = decide (i = j) := by simp
    rw [e]
    exact q
theorem dp_isN {K : PySem.W.Frag} {H : Hp} {u : V} (h : Dp K H u d) : decide (u = .non) = isNon d := by cases h <;> simp [isNon]
/-- is None, is not None -/
theorem et_isN (ha : EV X a σ B (dt X.K d)) {j : Nat} {p2 : Pos} : ET X (.Compare a [.Is] [.Constant .none j p2] pos) σ B (isNon d) :=
  et_cmp op_isN (nomark _) ha ev_non fun u v B1 _ px py => rv_now rfl fun H s Q q => by
    refine ⟨dp_n py, ?_⟩
    rw [dp_isN px]
    exact q
theorem ev_isN (ha : EV X a σ B (dt X.K d)) {j : Nat} {p2 : Pos} : EV X (.Compare a [.Is] [.Constant .none j p2] pos) σ B (dt X.K (.bool (isNon d))) :=
  ev_cmp op_isN (nomark _) ha ev_non fun u v B1 _ px py => rv_now (.bl _) fun H s Q q => by
    refine ⟨dp_n py, ?_⟩
    rw [dp_isN px]
    exact q
theorem et_notN (ha : EV X a σ B (dt X.K d)) {j : Nat} {p2 : Pos} : ET X (.Compare a [.IsNot] [.Constant .none j p2] pos) σ B (!isNon d) :=
  et_cmp op_notN (nomark _) ha ev_non fun u v B1 _ px py => rv_now rfl fun H s Q q => by
    refine ⟨dp_n py, ?_⟩
    rw [dp_isN px]
    exact q
/-- places -/
theorem ev_ixL {i : Nat} (ha : EV X a σ B (dt X.K (.list ds))) (hb : EV X b σ B (dt X.K (.int i))) (h : ds[i]? = some d) (hs : PlainIx b := by exact fun _ _ => rfl) : EV X (.Subscript a b pos) σ B (dt X.K d) :=
  ev_ix ix_list hs ha hb fun x y B1 _ px py => by
    obtain ⟨l, xs, rfl, hl, hd⟩ := dp_l px
    obtain ⟨v, hv, g⟩ := dpa_get hd h
    exact rv_now g fun H s Q q => ⟨l, xs, i, v, rfl, dp_i py, same_l s hl, atI_nat hv, q⟩
theorem ev_ixT {i : Nat} (ha : EV X a σ B (dt X.K (.tuple ds))) (hb : EV X b σ B (dt X.K (.int i))) (h : ds[i]? = some d) (hs : PlainIx b := by exact fun _ _ => rfl) : EV X (.Subscript a b pos) σ B (dt X.K d) :=
  ev_ix ix_tup hs ha hb fun x y B1 _ px py => by
    obtain ⟨l, xs, rfl, hl, hd⟩ := dp_t px
    obtain ⟨v, hv, g⟩ := dpa_get hd h
    exact rv_now g fun H s Q q => ⟨l, xs, i, v, rfl, dp_i py, same_t s hl, atI_nat hv, q⟩
/-- len -/
theorem ev_lenL (hm : X.mg "len" = none) (ha : EV X a σ B (dt X.K (.list ds))) (hg : Gl X "len" := by rfl) (he : starEach [a] X.env = (false, eval a X.env) :: starEach [] X.env := by rfl) : EV X (.Call (.Name "len" p) [a] [] pos) σ B (dt X.K (.int (ds.length : Nat))) :=
  ev_blt call_len_seq hm boot_len (ea_cons ha ea_nil he) (fun vs B1 _ h => by
    obtain ⟨v, rfl, g⟩ := allM1 h
    obtain ⟨l, xs, rfl, hl, hd⟩ := dp_l g
    exact rc_now (.int _) fun H s Q q => ⟨l, xs, rfl, .inl (same_l s hl), by rw [dpa_len hd]; exact q⟩) hg (by decide) (by decide) he rfl
theorem ev_lenT (hm : X.mg "len" = none) (ha : EV X a σ B (dt X.K (.tuple ds))) (hg : Gl X "len" := by rfl) (he : starEach [a] X.env = (false, eval a X.env) :: starEach [] X.env := by rfl) : EV X (.Call (.Name "len" p) [a] [] pos) σ B (dt X.K (.int (ds.length : Nat))) :=
  ev_blt call_len_seq hm boot_len (ea_cons ha ea_nil he) (fun vs B1 _ h => by
    obtain ⟨v, rfl, g⟩ := allM1 h
    obtain ⟨l, xs, rfl, hl, hd⟩ := dp_t g
    exact rc_now (.int _) fun H s Q q => ⟨l, xs, rfl, .inr (same_t s hl), by rw [dpa_len hd]; exact q⟩) hg (by decide) (by decide) he rfl
/-- tuple(e), list(e) -/
theorem ev_tupleL (hm : X.mg "tuple" = none) (ha : EV X a σ B (dt X.K (.list ds))) (hg : Gl X "tuple" := by rfl) (he : starEach [a] X.env = (false, eval a X.env) :: starEach [] X.env := by rfl) : EV X (.Call (.Name "tuple" p) [a] [] pos) σ B (dt X.K (.tuple ds)) :=
  ev_bty call_tuple_of hm boot_tuple (ea_cons ha ea_nil he) (fun vs B1 _ h => by
    obtain ⟨v, rfl, g⟩ := allM1 h
    obtain ⟨l, xs, rfl, hl, hd⟩ := dp_l g
    exact fun H s Q q => ⟨l, xs, rfl, .inl ⟨same_l s hl, fun p hp => by
      have x1 := (Nx.refl s).put (o := .tup xs) hp
      exact q _ _ _ x1 (.tup (.inl (.inl upd_same)) (dpa_same x1.b hd))⟩⟩) hg (by decide) (by decide) he rfl
theorem ev_tupleT (hm : X.mg "tuple" = none) (ha : EV X a σ B (dt X.K (.tuple ds))) (hg : Gl X "tuple" := by rfl) (he : starEach [a] X.env = (false, eval a X.env) :: starEach [] X.env := by rfl) : EV X (.Call (.Name "tuple" p) [a] [] pos) σ B (dt X.K (.tuple ds)) :=
  ev_bty call_tuple_of hm boot_tuple (ea_cons ha ea_nil he) (fun vs B1 _ h => by
    obtain ⟨v, rfl, g⟩ := allM1 h
    obtain ⟨l, xs, rfl, hl, hd⟩ := dp_t g
    exact rc_now (.tup hl hd) fun H s Q q => ⟨l, xs, rfl, .inr ⟨same_t s hl, q⟩⟩) hg (by decide) (by decide) he rfl
theorem ev_listT (hm : X.mg "list" = none) (ha : EV X a σ B (dt X.K (.tuple ds))) (hg : Gl X "list" := by rfl) (he : starEach [a] X.env = (false, eval a X.env) :: starEach [] X.env := by rfl) : EV X (.Call (.Name "list" p) [a] [] pos) σ B (dt X.K (.list ds)) :=
  ev_bty call_list_of hm boot_list (ea_cons ha ea_nil he) (fun vs B1 _ h => by
    obtain ⟨v, rfl, g⟩ := allM1 h
    obtain ⟨l, xs, rfl, hl, hd⟩ := dp_t g
    exact fun H s Q q => ⟨l, xs, rfl, .inr (same_t s hl), fun p hp => by
      have x1 := (Nx.refl s).put (o := .lst xs) hp
      exact q _ _ _ x1 (.lst (.inl (.inl upd_same)) (dpa_same x1.b hd))⟩) hg (by decide) (by decide) he rfl
theorem ev_listL (hm : X.mg "list" = none) (ha : EV X a σ B (dt X.K (.list ds))) (hg : Gl X "list" := by rfl) (he : starEach [a] X.env = (false, eval a X.env) :: starEach [] X.env := by rfl) : EV X (.Call (.Name "list" p) [a] [] pos) σ B (dt X.K (.list ds)) :=
  ev_bty call_list_of hm boot_list (ea_cons ha ea_nil he) (fun vs B1 _ h => by
    obtain ⟨v, rfl, g⟩ := allM1 h
    obtain ⟨l, xs, rfl, hl, hd⟩ := dp_l g
    exact fun H s Q q => ⟨l, xs, rfl, .inl (same_l s hl), fun p hp => by
      have x1 := (Nx.refl s).put (o := .lst xs) hp
      exact q _ _ _ x1 (.lst (.inl (.inl upd_same)) (dpa_same x1.b hd))⟩) hg (by decide) (by decide) he rfl
/-- all -/
theorem ev_all {bs : List Bool} (hc : X.calm = true) (hm : X.mg "all" = none) (ha : EV X a σ B (dt X.K (.list (bs.map PyData.bool)))) (hg : Gl X "all" := by rfl) (he : starEach [a] X.env = (false, eval a X.env) :: starEach [] X.env := by rfl) : EV X (.Call (.Name "all" p) [a] [] pos) σ B (dt X.K (.bool (bs.all id))) :=
  ev_blt (cr_all hc) hm (by decide +kernel) (ea_cons ha ea_nil he) (fun vs B1 _ h => by
    obtain ⟨v, rfl, g⟩ := allM1 h
    obtain ⟨l, xs, rfl, hl, hd⟩ := dp_l g
    have e : ∀ {bs : List Bool} {xs : List V}, DpAll X.K B1 xs (bs.map PyData.bool) → xs = bs.map V.bl := by
      intro bs
      induction bs with
      | nil =>
        intro xs h
        cases h
        rfl
      | cons b bs ih =>
        intro xs h
        cases h with
        | cons a b =>
          cases a
          rw [ih b]
          rfl
    exact rc_now (.bl _) fun H s Q q => ⟨l, bs, rfl, by rw [← e hd]; exact same_l s hl, q⟩) hg (by decide) (by decide) he rfl
end
end K7
/-! The mirror: what the program reckons, over plain lists. -/
namespace K7
open PySem
abbrev Log := List Str
abbrev look : Str := Str.ofString "?"
/-- a machine: states, names of the deeds as they came and ascending, moves, shows -/
structure Mac where
  n : Nat
  ks : List Str
  nms : List Str
  mv : Str → List Nat
  sh : List Int
/-- a name, as the law draws them -/
structure NameOk (x : Str) : Prop where
  look : x ≠ look
  ok : PyData.canLay0 (.str x) = true
  len : x.length ≤ 8
structure Mac.Ok (M : Mac) : Prop where
  n1 : 1 ≤ M.n
  n4 : M.n ≤ 4
  nd : M.ks.Nodup
  pm : M.nms.Perm M.ks
  nm : ∀ x ∈ M.ks, NameOk x
  ml : ∀ x ∈ M.ks, (M.mv x).length = M.n
  mb : ∀ x ∈ M.ks, ∀ i ∈ M.mv x, i < M.n
  sl : M.sh.length = M.n
  k5 : M.ks.length ≤ 5
  k1 : 1 ≤ M.ks.length
structure LogOk (M : Mac) (l : Log) : Prop where
  mem : ∀ x ∈ l, x = look ∨ x ∈ M.ks
  len : l.length ≤ 200
def stp (M : Mac) (x : Str) (h : Nat) : Nat := (M.mv x).getD h 0
def way (M : Mac) : Nat → Log → List Int × Nat
  | h, [] => ([], h)
  | h, x :: l => if x = look then (M.sh.getD h 0 :: (way M h l).1, (way M h l).2) else way M (stp M x h) l
/-- for each place the first one with an equal item -/
def firsts {α : Type} [DecidableEq α] (l : List α) : List Nat := l.map fun a => l.findIdx fun z => decide (z = a)
def rowsOf (M : Mac) (m : List Nat) : List (List Nat) := (List.range M.n).map fun s => m.getD s 0 :: M.nms.map fun x => m.getD (stp M x s) 0
def step (M : Mac) (m : List Nat) : List Nat := firsts (rowsOf M m)
def iter (M : Mac) : Nat → List Nat
  | 0 => firsts M.sh
  | i + 1 => step M (iter M i)
def marks (M : Mac) : List Nat := iter M M.n
def markedAt (M : Mac) (l : Log) (s : Nat) : List Int × Nat := ((way M s l).1, (marks M).getD (way M s l).2 0)
def marked (M : Mac) (l : Log) : List (List Int × Nat) := (List.range M.n).map (markedAt M l)
/-- some numbers, each once, ascending -/
def isort (l : List Nat) : List Nat := (List.range 10).filter fun i => decide (i ∈ l)
def img (M : Mac) (l : Log) (st : List Nat) : List Nat := isort (st.map fun s => (way M s l).2)
def mayGo (M : Mac) (l : Log) (k : Nat) (st : List Nat) : Bool := (img M (l.take k) st).all fun s => decide (markedAt M (l.drop (k + 1)) (stp M (l.getD k look) s) = markedAt M (l.drop (k + 1)) s)
def every (M : Mac) : List Nat := List.range M.n
def goers (M : Mac) (l : Log) (st : List Nat) : List Nat := (List.range l.length).filter fun k => (!decide (l.getD k look = look)) && mayGo M l k st
def without (l : Log) (ps : List Nat) : Log := (l.zipIdx.filter fun q => !decide (q.2 ∈ ps)).map (·.1)
def canAll (M : Mac) (l : Log) (ps : List Nat) (st : List Nat) : Bool := st.all fun s => decide (markedAt M l s = markedAt M (without l ps) s)
def stays (M : Mac) (l : Log) (k : Nat) (st : List Nat) : List Nat := st.filter fun s => !decide (markedAt M l s = markedAt M (without l [k]) s)
/-! codes -/
abbrev eN (i : Nat) : PyData := .int i
abbrev eI (i : Int) : PyData := .int i
abbrev eS (x : Str) : PyData := .str x
abbrev eTN (l : List Nat) : PyData := .tuple (l.map eN)
abbrev eLN (l : List Nat) : PyData := .list (l.map eN)
abbrev eTI (l : List Int) : PyData := .tuple (l.map eI)
abbrev eTS (l : List Str) : PyData := .tuple (l.map eS)
abbrev eW (r : List Int × Nat) : PyData := .tuple [eTI r.1, eN r.2]
end K7
/-! The layer, fourth part: index, in; a machine as it stands, its parts and deeds. -/
namespace K7
open PySem PySem.Spec PyProof.Rows L2
theorem _root_.L2.Room.u65 {k : Nat} {A : Around} (r : Room k A) : A.units + 65 < cLine := Nat.lt_of_le_of_lt (by omega) r.un
theorem _root_.L2.Room.u64 {k : Nat} {A : Around} (r : Room k A) : A.units + 64 < cLine := Nat.lt_of_le_of_lt (by omega) r.un
theorem _root_.L2.Room.u1 {k : Nat} {A : Around} (r : Room k A) : A.units + 1 < cLine := Nat.lt_of_le_of_lt (by omega) r.un
section
variable {X : Cx} {a b c e o : Expr} {σ : L2.St} {B : Hp} {pos p apos cpos : Pos} {d d' : PyData} {ds : List PyData} {n m : Nat}
theorem find_at {α : Type} {q : α → Bool} : ∀ {l : List α} {z : α}, z ∈ l → q z = true → ∃ y, l[l.findIdx q]? = some y ∧ q y = true ∧ ∀ (i : Nat) (u : α), i < l.findIdx q → l[i]? = some u → q u = false := fun {l z} h hz => by
  have hlt : l.findIdx q < l.length := List.findIdx_lt_length_of_exists ⟨z, h, hz⟩
  refine ⟨l[l.findIdx q], List.getElem?_eq_getElem hlt, List.findIdx_getElem, fun i u hi hu => ?_⟩
  have h2 := List.not_of_lt_findIdx hi
  obtain ⟨h3, h4⟩ := List.getElem?_eq_some_iff.mp hu
  subst h4
  simpa using h2
/-- l.index(e), a list -/
theorem ev_indexL (hu : X.A.units + 65 < cLine) (ho : EV X o σ B (dt X.K (.list ds))) (he : EV X e σ B (dt X.K d)) (hd : d ∈ ds) (h1 : plainAll n ds = true) (hn : n ≤ 50)
    (q1 : starEach [e] X.env = (false, eval e X.env) :: starEach [] X.env := by rfl) (hbase : attributeBase o "index" X.env (eval o X.env) = eval o X.env := by rfl) (hline : (apos.endLine == cpos.line) = true := by rfl)
    (hfew : ((backTo cpos (starEach [e] X.env)).all (fun x => !x.1) && (backToKw cpos (keywordEach [] X.env)).all (fun x => x.1.isSome) && decide ([e].length + ([] : List Keyword).length + (if ([] : List Keyword).isEmpty then 0 else 1) < 30)) = true := by rfl) :
    EV X (.Call (.Attribute o "index" apos) [e] [] cpos) σ B (dt X.K (.int (ds.findIdx (fun z => PyData.eqv z d) : Nat))) :=
  ev_of (pe_bm PySem.F.plainAttrs_list PySem.F.slot_list_index PySem.F.type_list_index (mt_indexD hu) pe_w (pa_cons pe_w pa_nil q1) hbase hfew hline q1 rfl) fun H s Q q => ho H s _ fun x B1 H1 x1 px => by
    obtain ⟨l, xs, rfl, hl, hda⟩ := dp_l px
    refine ⟨.inl ⟨rfl, xs, same_l x1.s hl⟩, EV.mono x1.b he H1 x1.s _ fun y B2 H2 x2 py => ?_⟩
    have hp := plainAll_iff.mp h1
    have hdd := hp d hd
    have hds : plain (n + 1) (.list ds) = true := by simpa [plain] using h1
    obtain ⟨z, hz, hz2, hno⟩ := find_at (q := fun z => PyData.eqv z d) hd ((plain_eqv n n d d hdd hdd).mpr rfl)
    exact ⟨l, y, d, ds, _, z, rfl, rfl, .lst (same_l x2.s (same_l x2.b hl)) (dpa_same x2.s (dpa_same x2.b hda)), dp_same x2.s py, plain_shaped hds (by omega), plain_shaped hdd (by omega), hz, hz2, fun m z' hm h' => hno m z' hm h', q _ B2 H2 (x1.trans x2) (.int _)⟩
/-- numbers, texts in a list or a tuple of such -/
def flatD : PyData → Bool
  | .int _ => true
  | .str _ => true
  | _ => false
theorem flat_v {K : PySem.W.Frag} {H : Hp} {v : V} {d : PyData} (h : Dp K H v d) (f : flatD d = true) : flatV v = true := by cases h <;> first | rfl | simp [flatD] at f
theorem flat_eq {K : PySem.W.Frag} {H : Hp} {u v : V} {d e : PyData} (h : Dp K H u d) (g : Dp K H v e) (f1 : flatD d = true) (f2 : flatD e = true) : eqV u v = true ↔ d = e := by
  cases h <;> first | (simp [flatD] at f1; done) | (cases g <;> first | (simp [flatD] at f2; done) | simp [eqV])
theorem flat_any {K : PySem.W.Frag} {H : Hp} {v : V} {e : PyData} (g : Dp K H v e) (f2 : flatD e = true) : ∀ {xs : List V} {ds : List PyData}, DpAll K H xs ds → ds.all flatD = true → (inV v xs = true ↔ e ∈ ds) ∧ xs.all flatV = true
  | _, _, .nil, _ => by simp [inV]
  | _, _, .cons h t, f => by
    rw [List.all_cons, Bool.and_eq_true] at f
    obtain ⟨i1, i2⟩ := flat_any g f2 t f.2
    refine ⟨?_, by rw [List.all_cons, flat_v h f.1, i2]; rfl⟩
    unfold inV at i1 ⊢
    rw [List.any_cons, Bool.or_eq_true, i1, flat_eq h g f.1 f2, List.mem_cons]
    exact or_congr_left eq_comm
theorem flat_in {K : PySem.W.Frag} {H : Hp} {v : V} {e : PyData} {xs : List V} {ds : List PyData} {q : Prop} [Decidable q] (g : Dp K H v e) (h : DpAll K H xs ds) (f1 : flatD e = true) (f2 : ds.all flatD = true) (hq : e ∈ ds ↔ q) : inV v xs = decide q ∧ xs.all flatV = true := by
  obtain ⟨h1, h2⟩ := flat_any g f1 h f2
  refine ⟨?_, h2⟩
  by_cases z : q
  · rw [decide_eq_true z]
    exact h1.mpr (hq.mpr z)
  · rw [decide_eq_false z]
    cases e : inV v xs with
    | false => rfl
    | true => exact absurd (hq.mp (h1.mp e)) z
theorem rv_in {K : PySem.W.Frag} {neg : Bool} {q : Prop} [Decidable q] {x y : V} {B1 : Hp} {R : Mp} (px : Dp K B1 x d) (py : Dp K B1 y (.list ds) ∨ Dp K B1 y (.tuple ds)) (f1 : flatD d = true) (f2 : ds.all flatD = true) (hq : d ∈ ds ↔ q) (hR : R.p (.bl (if neg then !decide q else decide q)) B1) : RV (rIn K neg) x y B1 R :=
  rv_now hR fun H s Q k => by
    rcases py with py | py
    · obtain ⟨l, xs, rfl, hl, hd⟩ := dp_l py
      obtain ⟨e1, e2⟩ := flat_in px hd f1 f2 hq
      exact ⟨l, xs, rfl, .inl (same_l s hl), flat_v px f1, e2, by rw [e1]; exact k⟩
    · obtain ⟨l, xs, rfl, hl, hd⟩ := dp_t py
      obtain ⟨e1, e2⟩ := flat_in px hd f1 f2 hq
      exact ⟨l, xs, rfl, .inr (same_t s hl), flat_v px f1, e2, by rw [e1]; exact k⟩
/-- a list or a tuple -/
def seqM (K : PySem.W.Frag) (ds : List PyData) : Mp := ⟨fun v H => Dp K H v (.list ds) ∨ Dp K H v (.tuple ds), fun s h => h.imp (dp_same s) (dp_same s)⟩
theorem EV.ofL (h : EV X e σ B (dt X.K (.list ds))) : EV X e σ B (seqM X.K ds) := h.imp fun _ _ _ => .inl
theorem EV.ofT (h : EV X e σ B (dt X.K (.tuple ds))) : EV X e σ B (seqM X.K ds) := h.imp fun _ _ _ => .inr
theorem et_in {q : Prop} [Decidable q] (ha : EV X a σ B (dt X.K d)) (hb : EV X b σ B (seqM X.K ds)) (f1 : flatD d = true) (f2 : ds.all flatD = true) (hq : d ∈ ds ↔ q) (hm : behindInMarks .In b = false := by rfl) : ET X (.Compare a [.In] [b] pos) σ B (decide q) := et_cmp op_in_seq hm ha hb fun x y B1 _ px py => rv_in (neg := false) px py f1 f2 hq rfl
theorem et_notIn {q : Prop} [Decidable q] (ha : EV X a σ B (dt X.K d)) (hb : EV X b σ B (seqM X.K ds)) (f1 : flatD d = true) (f2 : ds.all flatD = true) (hq : d ∈ ds ↔ q) (hm : behindInMarks .NotIn b = false := by rfl) : ET X (.Compare a [.NotIn] [b] pos) σ B (!decide q) := et_cmp op_notIn_seq hm ha hb fun x y B1 _ px py => rv_in (neg := true) px py f1 f2 hq rfl
theorem ev_in {q : Prop} [Decidable q] (ha : EV X a σ B (dt X.K d)) (hb : EV X b σ B (seqM X.K ds)) (f1 : flatD d = true) (f2 : ds.all flatD = true) (hq : d ∈ ds ↔ q) (hm : behindInMarks .In b = false := by rfl) : EV X (.Compare a [.In] [b] pos) σ B (dt X.K (.bool (decide q))) := ev_cmp op_in_seq hm ha hb fun x y B1 _ px py => rv_in (neg := false) px py f1 f2 hq (.bl _)
theorem ev_notIn {q : Prop} [Decidable q] (ha : EV X a σ B (dt X.K d)) (hb : EV X b σ B (seqM X.K ds)) (f1 : flatD d = true) (f2 : ds.all flatD = true) (hq : d ∈ ds ↔ q) (hm : behindInMarks .NotIn b = false := by rfl) : EV X (.Compare a [.NotIn] [b] pos) σ B (dt X.K (.bool (!decide q))) := ev_cmp op_notIn_seq hm ha hb fun x y B1 _ px py => rv_in (neg := true) px py f1 f2 hq (.bl _)
/-- any data in a list -/
theorem rv_inD {K : PySem.W.Frag} {q : Prop} [Decidable q] {x y : V} {B1 : Hp} {R : Mp} (px : Dp K B1 x d) (py : Dp K B1 y (.list ds)) (h1 : plain n d = true) (h2 : plainAll m ds = true) (hn : n ≤ 50) (hm : m ≤ 50) (hq : d ∈ ds ↔ q) (hR : R.p (.bl (decide q)) B1) : RV (rInD K) x y B1 R :=
  rv_now hR fun H s Q k => by
    have hds : plain (m + 1) (.list ds) = true := by simpa [plain] using h2
    refine ⟨d, ds, dp_same s px, dp_same s py, plain_shaped h1 (by omega), plain_shaped hds (by omega), ?_⟩
    have hp := plainAll_iff.mp h2
    have e : (ds.any fun z => PyData.eqv z d) = decide q := by
      by_cases z : q
      · rw [decide_eq_true z]
        exact List.any_eq_true.mpr ⟨d, hq.mpr z, (plain_eqv n n d d h1 h1).mpr rfl⟩
      · rw [decide_eq_false z]
        refine List.any_eq_false.mpr fun u hu e2 => z (hq.mp ?_)
        exact (plain_eqv m n u d (hp u hu) h1).mp e2 ▸ hu
    rw [e]
    exact k
theorem et_inD {q : Prop} [Decidable q] (hu : X.A.units + 65 < cLine) (ha : EV X a σ B (dt X.K d)) (hb : EV X b σ B (dt X.K (.list ds))) (h1 : plain n d = true) (h2 : plainAll m ds = true) (hn : n ≤ 50) (hm : m ≤ 50) (hq : d ∈ ds ↔ q) (hk : behindInMarks .In b = false := by rfl) : ET X (.Compare a [.In] [b] pos) σ B (decide q) :=
  et_cmp (op_inD hu) hk ha hb fun x y B1 _ px py => rv_inD px py h1 h2 hn hm hq rfl
theorem ev_inD {q : Prop} [Decidable q] (hu : X.A.units + 65 < cLine) (ha : EV X a σ B (dt X.K d)) (hb : EV X b σ B (dt X.K (.list ds))) (h1 : plain n d = true) (h2 : plainAll m ds = true) (hn : n ≤ 50) (hm : m ≤ 50) (hq : d ∈ ds ↔ q) (hk : behindInMarks .In b = false := by rfl) : EV X (.Compare a [.In] [b] pos) σ B (dt X.K (.bool (decide q))) :=
  ev_cmp (op_inD hu) hk ha hb fun x y B1 _ px py => rv_inD px py h1 h2 hn hm hq (.bl _)
/-- a part of a slice: a number not below 0, or left out -/
def EO (X : Cx) (e : Option Expr) (σ : L2.St) (B : Hp) (o : Option Nat) : Prop := (e = none ∧ o = none) ∨ ∃ l k, e = some l ∧ o = some k ∧ EV X l σ B (dt X.K (.int (k : Nat)))
theorem eo_no : EO X none σ B none := .inl ⟨rfl, rfl⟩
theorem eo_yes {k : Nat} (h : EV X e σ B (dt X.K (.int (k : Nat)))) : EO X (some e) σ B (some k) := .inr ⟨e, k, rfl, rfl, h⟩
@[irreducible] def wO (X : Cx) (e : Option Expr) : TO := fun σ H Q => ∀ (pins : List (Addr × Obj)) (s : Shared), Inv X pins σ H s → wpAny (model X.prog X.w) X.A (evalPart e X.env) (fun u s' => ∃ o H', Inv X pins σ H' s' ∧ IsPart u o ∧ Q o H') X.xe s
theorem wO_i {X : Cx} {e : Option Expr} {σ : L2.St} {H : Hp} {Q : Option Int → Hp → Prop} (h : ∀ (pins : List (Addr × Obj)) (s : Shared), Inv X pins σ H s → wpAny (model X.prog X.w) X.A (evalPart e X.env) (fun u s' => ∃ o H', Inv X pins σ H' s' ∧ IsPart u o ∧ Q o H') X.xe s) : wO X e σ H Q := by
  unfold wO
  exact h
theorem wO_o {X : Cx} {e : Option Expr} {σ : L2.St} {H : Hp} {Q : Option Int → Hp → Prop} (h : wO X e σ H Q) : ∀ (pins : List (Addr × Obj)) (s : Shared), Inv X pins σ H s → wpAny (model X.prog X.w) X.A (evalPart e X.env) (fun u s' => ∃ o H', Inv X pins σ H' s' ∧ IsPart u o ∧ Q o H') X.xe s := by
  unfold wO at h
  exact h
theorem po_w {e : Option Expr} : PO X e (wO X e) := ⟨fun pins s _ _ _ I h => wO_o h pins s I⟩
theorem EO.run {e : Option Expr} {o : Option Nat} (h : EO X e σ B o) : ∀ H, Same B H → ∀ Q : Option Int → Hp → Prop, (∀ B1 H1, Nx B H B1 H1 → Q (o.map Int.ofNat) H1) → wO X e σ H Q := fun H s Q q => by
  rcases h with ⟨rfl, rfl⟩ | ⟨l, k, rfl, rfl, h⟩
  · exact wO_i fun pins s' I => po_none.run pins s' σ H Q I (q B H (Nx.refl s))
  · exact wO_i fun pins s' I => (po_some pe_w).run pins s' σ H Q I (h H s _ fun v B1 H1 x1 pv => ⟨k, dp_i pv, q B1 H1 x1⟩)
def cutD {α : Type} (l : List α) (i j : Option Nat) : List α := (l.take (j.getD l.length)).drop (i.getD 0)
theorem cutV_eq {xs : List V} (i j : Option Nat) : cutV xs (i.map Int.ofNat) (j.map Int.ofNat) = cutD xs i j := by
  unfold cutV cutD
  have h1 : ∀ (o : Option Nat) (d : Nat), d ≤ xs.length → HT.sIx xs.length d (o.map Int.ofNat) = min (o.getD d) xs.length := by
    intro o d hd
    cases o with
    | none => simp [HT.sIx_none, Nat.min_eq_left hd]
    | some k => exact HT.sIx_nat xs.length d k
  rw [h1 i 0 (Nat.zero_le _), h1 j xs.length (Nat.le_refl _), List.drop_take]
  have e1 : xs.drop (min (i.getD 0) xs.length) = xs.drop (i.getD 0) := by
    by_cases h : i.getD 0 ≤ xs.length
    · rw [Nat.min_eq_left h]
    · rw [Nat.min_eq_right (by omega), List.drop_of_length_le (Nat.le_refl _), List.drop_of_length_le (by omega)]
  rw [e1]
  by_cases h : i.getD 0 ≤ xs.length
  · by_cases h2 : j.getD xs.length ≤ xs.length
    · congr 1
      omega
    · rw [List.take_of_length_le (by rw [List.length_drop]; omega), List.take_of_length_le (by rw [List.length_drop]; omega)]
  · rw [List.drop_of_length_le (by omega), List.take_nil, List.take_nil]
theorem dpa_cut {K : PySem.W.Frag} {H : Hp} {vs : List V} (i j : Option Nat) (h : DpAll K H vs ds) : DpAll K H (cutD vs i j) (cutD ds i j) := by
  unfold cutD
  rw [dpa_len h]
  exact dpa_drop _ (dpa_take _ h)
theorem EO.mono {e : Option Expr} {o : Option Nat} {B' : Hp} (s : Same B B') (h : EO X e σ B o) : EO X e σ B' o := by
  rcases h with h | ⟨l, k, h1, h2, h3⟩
  · exact .inl h
  · exact .inr ⟨l, k, h1, h2, h3.mono s⟩
theorem ev_slL {lo hi : Option Expr} {i j : Option Nat} {p2 : Pos} (ha : EV X a σ B (dt X.K (.list ds))) (hl : EO X lo σ B i) (hh : EO X hi σ B j) : EV X (.Subscript a (.Slice lo hi none p2) pos) σ B (dt X.K (.list (cutD ds i j))) :=
  ev_of (pe_slice sl_list pe_w po_w po_w) fun H s Q q => ha H s _ fun u B1 H1 x1 pu => (hl.mono x1.b).run H1 x1.s _ fun B2 H2 x2 => (hh.mono (x1.b.trans x2.b)).run H2 x2.s _ fun B3 H3 x3 => by
    obtain ⟨l, xs, rfl, hq, hd⟩ := dp_l pu
    refine ⟨l, xs, rfl, same_l x3.s (same_l x3.b (same_l x2.b hq)), fun p hp => ?_⟩
    have x4 := (Nx.refl x3.s).put (o := .lst (cutV xs (i.map Int.ofNat) (j.map Int.ofNat))) hp
    refine q _ _ _ (x1.trans (x2.trans (x3.trans x4))) (.lst (.inl (.inl upd_same)) ?_)
    have h2 := dpa_cut i j (dpa_same x3.b (dpa_same x2.b hd))
    rw [← cutV_eq] at h2
    exact dpa_same x4.b h2
theorem ev_slT {lo hi : Option Expr} {i j : Option Nat} {p2 : Pos} (ha : EV X a σ B (dt X.K (.tuple ds))) (hl : EO X lo σ B i) (hh : EO X hi σ B j) : EV X (.Subscript a (.Slice lo hi none p2) pos) σ B (dt X.K (.tuple (cutD ds i j))) :=
  ev_of (pe_slice sl_tupA pe_w po_w po_w) fun H s Q q => ha H s _ fun u B1 H1 x1 pu => (hl.mono x1.b).run H1 x1.s _ fun B2 H2 x2 => (hh.mono (x1.b.trans x2.b)).run H2 x2.s _ fun B3 H3 x3 => by
    obtain ⟨l, xs, rfl, hq, hd⟩ := dp_t pu
    have hq3 := same_t x3.b (same_t x2.b hq)
    have hd3 := dpa_same x3.b (dpa_same x2.b hd)
    refine ⟨l, xs, rfl, same_t x3.s hq3, fun hw => ?_, fun _ p hp => ?_⟩
    · refine q _ B3 H3 (x1.trans (x2.trans x3)) ?_
      have e : cutV xs (i.map Int.ofNat) (j.map Int.ofNat) = xs := by
        unfold cutV
        rw [hw.1, hw.2, List.drop_zero, Nat.sub_zero, List.take_length]
      have h2 := dpa_cut i j hd3
      rw [← cutV_eq, e] at h2
      exact .tup hq3 h2
    · have x4 := (Nx.refl x3.s).put (o := .tup (cutV xs (i.map Int.ofNat) (j.map Int.ofNat))) hp
      refine q _ _ _ (x1.trans (x2.trans (x3.trans x4))) (.tup (.inl (.inl upd_same)) ?_)
      have h2 := dpa_cut i j hd3
      rw [← cutV_eq] at h2
      exact dpa_same x4.b h2
end

/-! ### a machine's dict of moves -/
def mvAt (K : PySem.W.Frag) (M : Mac) (B : Hp) (d : Addr) : Prop := ∃ kvs : List (Key × V), B d = some (.dK kvs) ∧ kvs.map (·.1) = M.ks.map Sum.inr ∧ ∀ x ∈ M.ks, ∃ v, valV kvs (.inr x : Key) = some v ∧ Dp K B v (eTN (M.mv x))
theorem mvAt.mono {K : PySem.W.Frag} {M : Mac} {B B' : Hp} {d : Addr} (s : Same B B') (h : mvAt K M B d) : mvAt K M B' d := by
  obtain ⟨kvs, h1, h2, h3⟩ := h
  exact ⟨kvs, s _ _ h1, h2, fun x hx => let ⟨v, e, g⟩ := h3 x hx; ⟨v, e, dp_same s g⟩⟩
def mvM (K : PySem.W.Frag) (M : Mac) : Mp := ⟨fun v B => ∃ d, v = .ref d ∧ mvAt K M B d, fun s h => by
  obtain ⟨d, e, g⟩ := h
  exact ⟨d, e, g.mono s⟩⟩
theorem ev_getMv {X : Cx} {a b : Expr} {σ : L2.St} {B : Hp} {pos : Pos} {M : Mac} {x : Str} (hu : X.A.units + 1 < cLine) (ha : EV X a σ B (mvM X.K M)) (hb : EV X b σ B (dt X.K (eS x))) (hx : x ∈ M.ks) (hs : NoSl b := by exact fun _ _ => rfl) : EV X (.Subscript a b pos) σ B (dt X.K (eTN (M.mv x))) :=
  ev_of (pe_dget hu pe_w pe_w hs) fun H s Q q => ha H s _ fun u B1 H1 x1 ⟨d, e, g⟩ => EV.mono x1.b hb H1 x1.s _ fun y B2 H2 x2 py => by
    obtain ⟨kvs, h1, h2, h3⟩ := g.mono x2.b
    obtain ⟨v, e1, e2⟩ := h3 x hx
    have ey := dp_s py
    subst ey
    exact ⟨d, v, e, by rw [← e1]; exact DGet.k (k := (.inr x : Key)) (x2.s _ _ h1), q v B2 H2 (x1.trans x2) e2⟩

/-! ### a machine -/
abbrev aMany : Str := Str.ofString "own_many"
abbrev aNames : Str := Str.ofString "own_names"
abbrev aMoves : Str := Str.ofString "own_moves"
abbrev aShows : Str := Str.ofString "own_shows"
abbrev aMarks : Str := Str.ofString "own_marks"
abbrev aKinds : Str := Str.ofString "own_kinds"
def machM (K : PySem.W.Frag) (C : Addr) (M : Mac) : Mp := ⟨fun v B => ∃ a dx vn vd vs vm vk, v = .ref a ∧ B a = some (.ins C dx [(aMany, .int (M.n : Nat)), (aNames, vn), (aMoves, vd), (aShows, vs), (aMarks, vm), (aKinds, vk)]) ∧
    Dp K B vn (eTS M.nms) ∧ (mvM K M).p vd B ∧ Dp K B vs (eTI M.sh) ∧ Dp K B vm (eLN (marks M)), fun s h => by
  obtain ⟨a, dx, vn, vd, vs, vm, vk, e, h1, h2, h3, h4, h5⟩ := h
  exact ⟨a, dx, vn, vd, vs, vm, vk, e, s _ _ h1, dp_same s h2, (mvM K M).mono s h3, dp_same s h4, dp_same s h5⟩⟩
/-- what the top has written of the class -/
structure Mcl (K : PySem.W.Frag) (C : Addr) : Prop where
  cl : Cls K C
  n1 : NoAttr K C aMany
  n2 : NoAttr K C aNames
  n3 : NoAttr K C aMoves
  n4 : NoAttr K C aShows
  n5 : NoAttr K C aMarks
  n6 : NoAttr K C aKinds
section
variable {X : Cx} {e : Expr} {σ : L2.St} {B : Hp} {pos : Pos} {C : Addr} {M : Mac} {R : Mp} {f : Str}
theorem ev_fldM (T : Mcl X.K C) (he : EV X e σ B (machM X.K C M)) (hn : NoAttr X.K C f) (h : ∀ B' vn vd vs vm vk, Dp X.K B' vn (eTS M.nms) → (mvM X.K M).p vd B' → Dp X.K B' vs (eTI M.sh) → Dp X.K B' vm (eLN (marks M)) →
      ∃ v, ([(aMany, .int (M.n : Nat)), (aNames, vn), (aMoves, vd), (aShows, vs), (aMarks, vm), (aKinds, vk)] : List (Str × V)).lookup f = some v ∧ R.p v B') (hb : attributeBase e f X.env (eval e X.env) = eval e X.env := by rfl) : EV X (.Attribute e f pos) σ B R :=
  ev_of (pe_fld pe_w hb) fun H s Q q => he H s _ fun u B1 H1 x1 ⟨a, dx, vn, vd, vs, vm, vk, e, h1, h2, h3, h4, h5⟩ => by
    obtain ⟨v, e1, e2⟩ := h B1 vn vd vs vm vk h2 h3 h4 h5
    exact ⟨a, C, dx, _, v, e, x1.s _ _ h1, T.cl, hn, e1, q v B1 H1 x1 e2⟩
end
section
variable {v1 v2 v3 v4 v5 v6 : V}
theorem lk_at (f g : Str) (v : V) (l : List (Str × V)) (h : f = g) : List.lookup f ((g, v) :: l) = some v := by
  subst h
  simp [List.lookup]
theorem lk_on (f g : Str) (v : V) (l : List (Str × V)) (h : ¬ f = g) : List.lookup f ((g, v) :: l) = List.lookup f l := by
  have e : (f == g) = false := by simpa using h
  simp [List.lookup, e]
abbrev flds (v1 v2 v3 v4 v5 v6 : V) : List (Str × V) := [(aMany, v1), (aNames, v2), (aMoves, v3), (aShows, v4), (aMarks, v5), (aKinds, v6)]
theorem lk1 : (flds v1 v2 v3 v4 v5 v6).lookup aMany = some v1 := lk_at _ _ _ _ rfl
theorem lk2 : (flds v1 v2 v3 v4 v5 v6).lookup aNames = some v2 := (lk_on _ _ _ _ (by decide +kernel)).trans (lk_at _ _ _ _ rfl)
theorem lk3 : (flds v1 v2 v3 v4 v5 v6).lookup aMoves = some v3 := (lk_on _ _ _ _ (by decide +kernel)).trans ((lk_on _ _ _ _ (by decide +kernel)).trans (lk_at _ _ _ _ rfl))
theorem lk4 : (flds v1 v2 v3 v4 v5 v6).lookup aShows = some v4 := (lk_on _ _ _ _ (by decide +kernel)).trans ((lk_on _ _ _ _ (by decide +kernel)).trans ((lk_on _ _ _ _ (by decide +kernel)).trans (lk_at _ _ _ _ rfl)))
theorem lk5 : (flds v1 v2 v3 v4 v5 v6).lookup aMarks = some v5 := (lk_on _ _ _ _ (by decide +kernel)).trans ((lk_on _ _ _ _ (by decide +kernel)).trans ((lk_on _ _ _ _ (by decide +kernel)).trans ((lk_on _ _ _ _ (by decide +kernel)).trans (lk_at _ _ _ _ rfl))))
theorem lk0 {f : Str} (h1 : ¬ f = aMany) (h2 : ¬ f = aNames) (h3 : ¬ f = aMoves) (h4 : ¬ f = aShows) (h5 : ¬ f = aMarks) (h6 : ¬ f = aKinds) : (flds v1 v2 v3 v4 v5 v6).lookup f = none :=
  (lk_on _ _ _ _ h1).trans ((lk_on _ _ _ _ h2).trans ((lk_on _ _ _ _ h3).trans ((lk_on _ _ _ _ h4).trans ((lk_on _ _ _ _ h5).trans ((lk_on _ _ _ _ h6).trans rfl)))))
end
section
variable {X : Cx} {e : Expr} {σ : L2.St} {B : Hp} {pos : Pos} {C : Addr} {M : Mac} {R : Mp} {f : Str}
theorem ev_fMany (T : Mcl X.K C) (he : EV X e σ B (machM X.K C M)) (hb : attributeBase e aMany X.env (eval e X.env) = eval e X.env := by rfl) : EV X (.Attribute e aMany pos) σ B (dt X.K (eN M.n)) := ev_fldM T he T.n1 (fun B' vn vd vs vm vk h2 h3 h4 h5 => ⟨_, lk1, .int _⟩) hb
theorem ev_fNames (T : Mcl X.K C) (he : EV X e σ B (machM X.K C M)) (hb : attributeBase e aNames X.env (eval e X.env) = eval e X.env := by rfl) : EV X (.Attribute e aNames pos) σ B (dt X.K (eTS M.nms)) := ev_fldM T he T.n2 (fun B' vn vd vs vm vk h2 h3 h4 h5 => ⟨_, lk2, h2⟩) hb
theorem ev_fMoves (T : Mcl X.K C) (he : EV X e σ B (machM X.K C M)) (hb : attributeBase e aMoves X.env (eval e X.env) = eval e X.env := by rfl) : EV X (.Attribute e aMoves pos) σ B (mvM X.K M) := ev_fldM T he T.n3 (fun B' vn vd vs vm vk h2 h3 h4 h5 => ⟨_, lk3, h3⟩) hb
theorem ev_fShows (T : Mcl X.K C) (he : EV X e σ B (machM X.K C M)) (hb : attributeBase e aShows X.env (eval e X.env) = eval e X.env := by rfl) : EV X (.Attribute e aShows pos) σ B (dt X.K (eTI M.sh)) := ev_fldM T he T.n4 (fun B' vn vd vs vm vk h2 h3 h4 h5 => ⟨_, lk4, h4⟩) hb
theorem ev_fMarks (T : Mcl X.K C) (he : EV X e σ B (machM X.K C M)) (hb : attributeBase e aMarks X.env (eval e X.env) = eval e X.env := by rfl) : EV X (.Attribute e aMarks pos) σ B (dt X.K (eLN (marks M))) := ev_fldM T he T.n5 (fun B' vn vd vs vm vk h2 h3 h4 h5 => ⟨_, lk5, h5⟩) hb
end
end K7
/-! A machine's properties, methods and ways; the walks of machines.py's small defs. -/
namespace K7
open PySem PySem.Spec PyProof.Rows L2
/-! ### the text -/
def topS (i : Nat) : Stmt := PySem.Challenge.pw_leftlogs_k70_whole_one_by_one_is_right.main.body.getD i (.Pass ⟨0, 0, 0, 0⟩)
/-- the built-ins and constants that the defs read -/
structure Bl (mg : Str → Option Value) : Prop where
  look : ∃ t, mg "LOOK" = some (.str look t)
  triple : ∃ t, mg "TRIPLE" = some (.int 3 t)
  len : mg "len" = none
  range : mg "range" = none
  tuple : mg "tuple" = none
  list : mg "list" = none
  sorted : mg "sorted" = none
  set : mg "set" = none
  enum : mg "enumerate" = none
  zip : mg "zip" = none
  all : mg "all" = none
  min : mg "min" = none
  max : mg "max" = none
  int : mg "int" = none
  abs : mg "abs" = none
  str : mg "str" = none
  isi : mg "isinstance" = none
  dict : mg "dict" = none
  bool : mg "bool" = none
theorem Fo.raw {P : Program} {w : World} {K : PySem.W.Frag} {mg : Str → Option Value} {base : Heap} {k : Nat} {f : Addr} {sp : Sp} (F : Fo P w K mg base k f sp) : FnR P w K mg base CX0 k f sp := by
  obtain ⟨fd, ps, dvs, ds, sp0, F, kp, hb, hv, imp⟩ := F.ex
  exact (F.raw hb hv).imp imp
/-- from where names and numbers of a module are read -/
theorem ev_glob {X : Cx} {x : Str} {v : V} {u : Value} {pos : Pos} {σ : L2.St} {B : Hp} {R : Mp} (hm : X.mg x = some u) (r : RelV v u) (h : ∀ B', R.p v B') (hg : Gl X x := by rfl) (hd : (x == ("__debug__" : Str)) = false := by decide) : EV X (.Name x pos) σ B R := ev_const (pe_glob hg hm r hd) h
theorem ev_LOOK {X : Cx} {pos : Pos} {σ : L2.St} {B : Hp} (T : Bl X.mg) (hg : Gl X "LOOK" := by rfl) : EV X (.Name "LOOK" pos) σ B (dt X.K (eS look)) := by
  obtain ⟨t, e⟩ := T.look
  exact ev_glob (v := .str look) e ⟨t, rfl⟩ (fun _ => .str _) hg
theorem sn_var {X : Cx} {tg : Expr} {σ : L2.St} {B : Hp} {pos : Pos} {ds : List PyData} (i : Nat) {x : Str} {v : V} (hs : σ[i]? = some (some v)) (h : (seqM X.K ds).p v B) (hN : X.N[i]? = some x := by rfl) (hv : Vis X.env.scope x := by first | exact Or.inl rfl | exact Or.inr (Or.inl rfl) | exact Or.inr (Or.inr rfl))
    (hd : (x == ("__debug__" : Str)) = false := by decide) (hcd : (x == ("__classdict__" : Str)) = false := by decide) : SN X tg (.Name x pos) σ B ds (dt X.K) := by
  rcases h with h | h
  · exact sn_list (ev_var i hs h hN hv hd hcd)
  · exact sn_tup (ev_var i hs h hN hv hd hcd)
section
variable {X : Cx} {e o a b : Expr} {es : List Expr} {σ : L2.St} {B : Hp} {pos apos p : Pos} {C : Addr} {M : Mac} {k : Nat} {R : Mp} {f m : Str}
/-- a property -/
theorem ev_prop {sp : Sp} {pr g : Addr} (c : Cls X.K C) (he : EV X e σ B (machM X.K C M)) (hp : PropOf X.K C f pr g) (F : Fo X.prog X.w X.K X.mg X.base k g sp) (hr : Room (k + 1) X.A) (h : ∀ v B1, (machM X.K C M).p v B1 → RS sp [v] B1 R) (hab : attributeBase e f X.env (eval e X.env) = eval e X.env := by rfl) : EV X (.Attribute e f pos) σ B R := by
  obtain ⟨fd, ps, dvs, ds, sp0, F, kp, hb, hv, imp⟩ := F.ex
  exact ev_of (pe_prop pe_w c hp F hr hb hv pass0 hab) fun H s Q q => he H s _ fun v B1 H1 x1 pv => by
    obtain ⟨a, dx, vn, vd, vs, vm, vk, rfl, h1, h2⟩ := id pv
    exact ⟨a, dx, _, rfl, x1.s _ _ h1, imp _ _ _ _ (h _ B1 pv H1 x1.s Q fun v B2 H2 x2 r => q v B2 H2 (x1.trans x2) r)⟩
/-- a method with arguments -/
theorem ev_meth {sp : Sp} {g : Addr} {Ps : List Mp} {pl : Sem Bool} (c : Cls X.K C) (ho : EV X o σ B (machM X.K C M)) (hm : Meth X.K C m g) (F : Fo X.prog X.w X.K X.mg X.base k g sp) (hr : Room k X.A) (ha : EA X (e :: es) σ B Ps) (hno : ∀ v1 v2 v3 v4 v5 v6, (flds v1 v2 v3 v4 v5 v6).lookup m = none)
    (h : ∀ v vs B1, (machM X.K C M).p v B1 → AllM Ps vs B1 → RS sp (v :: vs) B1 R) (hst : starEach (e :: es) X.env = (false, eval e X.env) :: starEach es X.env := by rfl) (hpl : (backTo pos (starEach es X.env)).any (·.1) = false := by rfl)
    (ht : eval (.Call (.Attribute o m apos) (e :: es) [] pos) X.env = (do
      let ov ← eval o X.env
      standAt apos.atName
      let (f, first) ← holding [ov] (getMethod ov m pl)
      callWith pos f first (backTo pos (starEach (e :: es) X.env)) (backToKw pos (keywordEach [] X.env))) := by rfl) : EV X (.Call (.Attribute o m apos) (e :: es) [] pos) σ B R := by
  obtain ⟨fd, ps, dvs, ds, sp0, F, kp, hb, hv, imp⟩ := F.ex
  exact ev_of (pe_meth (pl := pl) pe_w c hm F hr hb hv pass0 pa_w hst hpl ht) fun H s Q q => ho H s _ fun v B1 H1 x1 pv => by
    obtain ⟨a, dx, vn, vd, vs, vm, vk, rfl, h1, h2⟩ := id pv
    exact ⟨a, dx, _, rfl, x1.s _ _ h1, hno _ _ _ _ _ _, EA.mono x1.b ha H1 x1.s _ fun vs B2 H2 x2 pvs => imp _ _ _ _ (h _ vs B2 ((machM X.K C M).mono x2.b pv) pvs H2 x2.s Q fun v B3 H3 x3 r => q v B3 H3 (x1.trans (x2.trans x3)) r)⟩
theorem run_raw1 {pins : List (Addr × Obj)} {H : Hp} {s : Shared} {g : Addr} {sp : Sp} {Q : VK} {us : List Value} {vs : List V} (F : FnR X.prog X.w X.K X.mg X.base CX0 k g sp) (hr : Room (k + 1) X.A) (I : Inv X pins σ H s) (r : Vals vs us) (h : sp vs H Q E0) :
    wpAny (model X.prog X.w) X.A.in1 (call (.ref g) us) (EP X pins σ Q) X.xe s := by
  refine wpAny_call (codeAny_mono (F X.A.in1 X.stack s H us vs Q E0 hr.in1 (Env0.in1 I.env0) r h) fun r s' hq => ?_)
  cases r with
  | error e => exact hq.elim
  | ok fl =>
    cases fl with
    | ret u => exact I.after hq
    | next => exact hq.elim
    | brk => exact hq.elim
    | cont => exact hq.elim
theorem run_raw {pins : List (Addr × Obj)} {H : Hp} {s : Shared} {g : Addr} {sp : Sp} {Q : VK} {us : List Value} {vs : List V} (F : FnR X.prog X.w X.K X.mg X.base CX0 k g sp) (hr : Room k X.A) (I : Inv X pins σ H s) (r : Vals vs us) (h : sp vs H Q E0) :
    wpAny (model X.prog X.w) X.A (call (.ref g) us) (EP X pins σ Q) X.xe s := by
  refine wpAny_call (codeAny_mono (F X.A X.stack s H us vs Q E0 hr I.env0 r h) fun r s' hq => ?_)
  cases r with
  | error e => exact hq.elim
  | ok fl =>
    cases fl with
    | ret u => exact I.after hq
    | next => exact hq.elim
    | brk => exact hq.elim
    | cont => exact hq.elim
/-- machine[e], by its own __getitem__ -/
theorem ev_ixOwn {sp : Sp} {g : Addr} {P : Mp} (hg : PySem.W.findIn X.K (.ref C) "__getitem__" = some (some (.ref g))) (hf : PySem.W.fnIn X.K g = true) (hfn : PySem.W.isFn X.K (.ref g) = true) (ho : EV X a σ B (machM X.K C M)) (hb : EV X b σ B P) (F : Fo X.prog X.w X.K X.mg X.base k g sp) (hr : Room (k + 1) X.A)
    (h : ∀ v u B1, (machM X.K C M).p v B1 → P.p u B1 → RS sp [v, u] B1 R) (hsl : ∀ x i, subscripted b true (.ref x) i = runValue (.builtin "lifetime.subscript" ⟨[.ref x, i], []⟩) := by intro _ _; with_unfolding_all rfl) : EV X (.Subscript a b pos) σ B R := by
  refine fun H s Q q => wE_i fun pins sh I => ?_
  refine Subscript_ (binT (R := fun x y H2 => sp [x, y] H2 Q E0 ∧ ∃ p dx fs, x = .ref p ∧ H2 p = some (.ins C dx fs)) pe_w pe_w I (ho H s _ fun v B1 H1 x1 pv => EV.mono x1.b hb H1 x1.s _ fun u B2 H2 x2 pu => ?_) fun v u s2 x y H2 I2 rx ry q => ?_)
  · obtain ⟨p, dx, vn, vd, vs, vm, vk, rfl, h1, h2⟩ := id pv
    exact ⟨h _ u B2 ((machM X.K C M).mono x2.b pv) pu H2 x2.s Q fun v B3 H3 x3 r => q v B3 H3 (x1.trans (x2.trans x3)) r, p, dx, _, rfl, x2.h _ _ (x1.s _ _ h1)⟩
  · obtain ⟨hs, p, dx, fs, rfl, hp⟩ := q
    cases rx
    obtain ⟨mA, O, _⟩ := ins_get I2.hok hp
    obtain ⟨od, J, _⟩ := O.look
    obtain ⟨m, F2⟩ := I2.fr
    exact PySem.W.sub_K F2 I2.ok.mod.kin J hg hf hfn (run_raw1 F.raw hr I2 (.cons (show RelV (.ref p) (.ref p) from rfl) (.cons ry .nil)) hs) (hsl _ _)
/-- e in machine, by its own __contains__ -/
theorem op_inOwn {sp : Sp} {g : Addr} (hg : PySem.W.findIn X.K (.ref C) "__contains__" = some (some (.ref g))) (hfn : PySem.W.isFn X.K (.ref g) = true) (F : Fo X.prog X.w X.K X.mg X.base k g sp) (hr : Room k X.A) :
    OpR X (compareOp .In) (fun x y H Q => (∃ p dx fs, y = .ref p ∧ H p = some (.ins C dx fs)) ∧ sp [y, x] H (fun v H' => ∃ b, v = .bl b ∧ Q (.bl b) H') E0) := by
  intro pins s σ H x y v u Q I rx ry h
  obtain ⟨⟨p, dx, fs, rfl, hp⟩, hs⟩ := h
  cases ry
  obtain ⟨mA, O, _⟩ := ins_get I.hok hp
  obtain ⟨od, J, _⟩ := O.look
  obtain ⟨m, F2⟩ := I.fr
  refine PySem.W.in_K F2 I.ok.mod.kin J hg hfn (thn (run_raw F.raw hr I (.cons (show RelV (.ref p) (.ref p) from rfl) (.cons rx .nil)) hs) fun r s' ⟨v', H', I', r', b, e, q⟩ => ?_)
  subst e
  cases r'
  exact thn (tru_ok pins s' σ H' (.bl b) _ (fun c H2 => c = b ∧ H2 = H') I' rfl ⟨b, rfl, rfl, rfl⟩) fun c s2 ⟨H2, I2, e1, e2⟩ => by
    subst e1 e2
    exact ⟨.bl c, H2, I2, rfl, q⟩
theorem ev_inOwn {sp : Sp} {g : Addr} {P : Mp} {k0 : Bool} (hg : PySem.W.findIn X.K (.ref C) "__contains__" = some (some (.ref g))) (hfn : PySem.W.isFn X.K (.ref g) = true) (F : Fo X.prog X.w X.K X.mg X.base k g sp) (hr : Room k X.A) (ha : EV X a σ B P) (hb : EV X b σ B (machM X.K C M))
    (h : ∀ v u B1, (machM X.K C M).p v B1 → P.p u B1 → RS sp [v, u] B1 (dt X.K (.bool k0))) (hm : behindInMarks .In b = false := by rfl) : EV X (.Compare a [.In] [b] pos) σ B (dt X.K (.bool k0)) :=
  ev_cmp (op_inOwn hg hfn F hr) hm ha hb fun x y B1 s1 px py => fun H s Q q => by
    obtain ⟨p, dx, vn, vd, vs, vm, vk, rfl, h1, h2⟩ := id py
    exact ⟨⟨p, dx, _, rfl, s _ _ h1⟩, h _ x B1 py px H s _ fun v B2 H2 x2 pv => ⟨k0, dp_b pv, q _ B2 H2 x2 (.bl _)⟩⟩
/-- machine(..) -/
theorem ev_callOwn {sp : Sp} {g : Addr} {Ps : List Mp} {fe : Expr} (c : StX.CallO X.K C g) (F : Fo X.prog X.w X.K X.mg X.base k g sp) (hr : Room k X.A) (ho : EV X fe σ B (machM X.K C M)) (ha : EA X (e :: es) σ B Ps) (h : ∀ v vs B1, (machM X.K C M).p v B1 → AllM Ps vs B1 → RS sp (v :: vs) B1 R)
    (ht : eval (.Call fe (e :: es) [] pos) X.env = (do callWith pos (← eval fe X.env) [] (backTo pos (starEach (e :: es) X.env)) (backToKw pos (keywordEach [] X.env))) := by rfl)
    (he : starEach (e :: es) X.env = (false, eval e X.env) :: starEach es X.env := by rfl) (hpl : (backTo pos (starEach es X.env)).any (·.1) = false := by rfl) : EV X (.Call fe (e :: es) [] pos) σ B R :=
  ev_of (StX.pe_callO pe_w c F.raw hr pass0 pa_w ht he hpl) fun H s Q q => ho H s _ fun v B1 H1 x1 pv => by
    obtain ⟨a, dx, vn, vd, vs, vm, vk, rfl, h1, h2⟩ := id pv
    exact ⟨a, rfl, EA.mono x1.b ha H1 x1.s _ fun vs B2 H2 x2 pvs => ⟨.inr ⟨dx, _, x2.h _ _ (x1.s _ _ h1)⟩, h _ vs B2 ((machM X.K C M).mono x2.b pv) pvs H2 x2.s Q fun v B3 H3 x3 r => q v B3 H3 (x1.trans (x2.trans x3)) r⟩⟩
end

/-! ### what the methods promise -/
abbrev spMany (K : PySem.W.Frag) (C : Addr) : Sp := spD (fun M : Mac => [machM K C M]) (fun _ => True) (fun M => dt K (eN M.n))
abbrev spNames (K : PySem.W.Frag) (C : Addr) : Sp := spD (fun M : Mac => [machM K C M]) (fun _ => True) (fun M => dt K (eTS M.nms))
abbrev spShows (K : PySem.W.Frag) (C : Addr) : Sp := spD (fun M : Mac => [machM K C M]) (fun _ => True) (fun M => dt K (eTI M.sh))
abbrev spMark (K : PySem.W.Frag) (C : Addr) : Sp := spD (fun t : Mac × Nat => [machM K C t.1, dt K (eN t.2)]) (fun t => t.2 < (marks t.1).length) (fun t => dt K (eN ((marks t.1).getD t.2 0)))
abbrev spGet (K : PySem.W.Frag) (C : Addr) : Sp := spD (fun t : Mac × Str => [machM K C t.1, dt K (eS t.2)]) (fun t => t.2 ∈ t.1.ks ∧ t.1.Ok) (fun t => dt K (eTN (t.1.mv t.2)))
abbrev spHas (K : PySem.W.Frag) (C : Addr) : Sp := spD (fun t : Mac × Str => [machM K C t.1, dt K (eS t.2)]) (fun _ => True) (fun t => dt K (.bool (decide (t.2 ∈ t.1.nms))))
abbrev spGo (K : PySem.W.Frag) (C : Addr) : Sp := spD (fun t : Mac × Nat × Log => [machM K C t.1, dt K (eN t.2.1), dt K (eTS t.2.2)]) (fun t => t.1.Ok ∧ t.2.1 < t.1.n ∧ LogOk t.1 t.2.2) (fun t => dt K (eN (way t.1 t.2.1 t.2.2).2))
/-- the class, its methods proved -/
structure Mth (P : Program) (w : World) (K : PySem.W.Frag) (mg : Str → Option Value) (base : Heap) (C : Addr) : Prop where
  T : Mcl K C
  many : ∃ p g, PropOf K C "many" p g ∧ Fo P w K mg base 1 g (spMany K C)
  names : ∃ p g, PropOf K C "names" p g ∧ Fo P w K mg base 1 g (spNames K C)
  shows : ∃ p g, PropOf K C "shows" p g ∧ Fo P w K mg base 1 g (spShows K C)
  mark : ∃ g, Meth K C "mark" g ∧ Fo P w K mg base 1 g (spMark K C)
  get : ∃ g, (PySem.W.findIn K (.ref C) "__getitem__" = some (some (.ref g)) ∧ PySem.W.fnIn K g = true ∧ PySem.W.isFn K (.ref g) = true) ∧ Fo P w K mg base 1 g (spGet K C)
  has : ∃ g, (PySem.W.findIn K (.ref C) "__contains__" = some (some (.ref g)) ∧ PySem.W.isFn K (.ref g) = true) ∧ Fo P w K mg base 1 g (spHas K C)
section
variable {X : Cx} {e o a b : Expr} {σ : L2.St} {B : Hp} {pos apos p : Pos} {C : Addr} {M : Mac}
theorem ev_many (T : Mth X.prog X.w X.K X.mg X.base C) (hr : Room 2 X.A) (he : EV X e σ B (machM X.K C M)) (hab : attributeBase e "many" X.env (eval e X.env) = eval e X.env := by rfl) : EV X (.Attribute e "many" pos) σ B (dt X.K (eN M.n)) := by
  obtain ⟨p, g, hp, F⟩ := T.many
  exact ev_prop T.T.cl he hp F hr (fun v B1 hv => rs_d M ⟨hv, True.intro⟩ True.intro) hab
theorem ev_names (T : Mth X.prog X.w X.K X.mg X.base C) (hr : Room 2 X.A) (he : EV X e σ B (machM X.K C M)) (hab : attributeBase e "names" X.env (eval e X.env) = eval e X.env := by rfl) : EV X (.Attribute e "names" pos) σ B (dt X.K (eTS M.nms)) := by
  obtain ⟨p, g, hp, F⟩ := T.names
  exact ev_prop T.T.cl he hp F hr (fun v B1 hv => rs_d M ⟨hv, True.intro⟩ True.intro) hab
theorem ev_shows (T : Mth X.prog X.w X.K X.mg X.base C) (hr : Room 2 X.A) (he : EV X e σ B (machM X.K C M)) (hab : attributeBase e "shows" X.env (eval e X.env) = eval e X.env := by rfl) : EV X (.Attribute e "shows" pos) σ B (dt X.K (eTI M.sh)) := by
  obtain ⟨p, g, hp, F⟩ := T.shows
  exact ev_prop T.T.cl he hp F hr (fun v B1 hv => rs_d M ⟨hv, True.intro⟩ True.intro) hab
theorem ev_mark {i : Nat} {pl : Sem Bool} (T : Mth X.prog X.w X.K X.mg X.base C) (hr : Room 2 X.A) (ho : EV X o σ B (machM X.K C M)) (he : EV X e σ B (dt X.K (eN i))) (hi : i < (marks M).length) (hst : starEach [e] X.env = (false, eval e X.env) :: starEach [] X.env := by rfl)
    (ht : eval (.Call (.Attribute o "mark" apos) [e] [] pos) X.env = (do
      let ov ← eval o X.env
      standAt apos.atName
      let (f, first) ← holding [ov] (getMethod ov "mark" pl)
      callWith pos f first (backTo pos (starEach [e] X.env)) (backToKw pos (keywordEach [] X.env))) := by rfl) : EV X (.Call (.Attribute o "mark" apos) [e] [] pos) σ B (dt X.K (eN ((marks M).getD i 0))) := by
  obtain ⟨g, hm, F⟩ := T.mark
  refine ev_meth (pl := pl) T.T.cl ho hm F (hr.mono (by decide)) (ea_cons he ea_nil hst) (fun _ _ _ _ _ _ => lk0 (by decide +kernel) (by decide +kernel) (by decide +kernel) (by decide +kernel) (by decide +kernel) (by decide +kernel)) (fun v vs B1 hv hvs => ?_) hst rfl ht
  exact rs_d (M, i) ⟨hv, hvs⟩ hi
theorem ev_get {x : Str} (T : Mth X.prog X.w X.K X.mg X.base C) (hr : Room 2 X.A) (M1 : M.Ok) (ho : EV X a σ B (machM X.K C M)) (hb : EV X b σ B (dt X.K (eS x))) (hx : x ∈ M.ks) (hsl : ∀ x i, subscripted b true (.ref x) i = runValue (.builtin "lifetime.subscript" ⟨[.ref x, i], []⟩) := by intro _ _; with_unfolding_all rfl) : EV X (.Subscript a b pos) σ B (dt X.K (eTN (M.mv x))) := by
  obtain ⟨g, ⟨h1, h2, h3⟩, F⟩ := T.get
  exact ev_ixOwn h1 h2 h3 ho hb F hr (fun v u B1 hv hu => rs_d (M, x) ⟨hv, hu, True.intro⟩ ⟨hx, M1⟩) hsl
theorem ev_has {x : Str} (T : Mth X.prog X.w X.K X.mg X.base C) (hr : Room 2 X.A) (ha : EV X a σ B (dt X.K (eS x))) (hb : EV X b σ B (machM X.K C M)) (hm : behindInMarks .In b = false := by rfl) : EV X (.Compare a [.In] [b] pos) σ B (dt X.K (.bool (decide (x ∈ M.nms)))) := by
  obtain ⟨g, ⟨h1, h2⟩, F⟩ := T.has
  exact ev_inOwn h1 h2 F (hr.mono (by decide)) ha hb (fun v u B1 hv hu => rs_d (M, x) ⟨hv, hu, True.intro⟩ True.intro) hm
end
end K7
/-! The walks of machines.py's small defs and of logs.py. -/
namespace K7
open PySem PySem.Spec PyProof.Rows L2
/-! ### isinstance -/
def tyD : PyData → String
  | .none => "NoneType"
  | .bool _ => "bool"
  | .int _ => "int"
  | .str _ => "str"
  | .list _ => "list"
  | .tuple _ => "tuple"
  | .dict _ => "dict"
theorem tyx_of {K : PySem.W.Frag} {H : Hp} {v : V} {d : PyData} (h : Dp K H v d) : TyX K H v (.type (tyD d)) := by
  cases h with
  | non => exact .base .non
  | bl b => exact .base (.bl b)
  | int i => exact .base (.int i)
  | str x => exact .base (.str x)
  | lst h _ =>
    rcases h with (h | ⟨o, h⟩) | ⟨o, its, n, h1, h2, _⟩
    · exact .base (.lst h)
    · exact .base (.frz h)
    · exact .kList h1 h2
  | tup h _ =>
    rcases h with (h | ⟨o, h⟩) | ⟨o, its, n, h1, h2, _⟩
    · exact .base (.tup h)
    · exact .fTuple h
    · exact .kTuple h1 h2
theorem ev_isi {X : Cx} {a t : Expr} {σ : L2.St} {B : Hp} {pos p : Pos} {d : PyData} {T : String} {b : Bool} (hm : X.mg "isinstance" = none) (ha : EV X a σ B (dt X.K d)) (ht : EV X t σ B (eqM (.ty T))) (hk : kitB (tyD d) T = some b) (hg : Gl X "isinstance" := by rfl)
    (h1 : starEach [a, t] X.env = (false, eval a X.env) :: starEach [t] X.env := by rfl) (h2 : starEach [t] X.env = (false, eval t X.env) :: starEach [] X.env := by rfl) (hpl : (backTo pos (starEach [t] X.env)).any (·.1) = false := by rfl) : EV X (.Call (.Name "isinstance" p) [a, t] [] pos) σ B (dt X.K (.bool b)) :=
  ev_blt call_isi hm (by decide +kernel) (ea_cons ha (ea_cons ht ea_nil h2) h1) (fun vs B1 _ h => by
    obtain ⟨x, c, rfl, h1, h2⟩ := allM2 h
    have e : c = .ty T := h2
    subst e
    exact rc_now (.bl _) fun H s Q q => ⟨x, .ty T, _, .type T, b, rfl, .ty T, tyx_of (dp_same s h1), kit_ty hk, q⟩) hg (by decide) (by decide) h1 hpl

/-! ### the class's own defs -/
abbrev cM : Stmt := topS 16
section
variable {P : Program} {w : World} {K : PySem.W.Frag} {mg : Str → Option Value} {base : Heap} {C g : Addr}
theorem scMany : FnScope ["self"] ["self"] (defScope (inClass cM 1)) := ⟨rfl, rfl, rfl, by decide +kernel, rfl, by decide +kernel, by decide +kernel⟩
theorem ok_many (T : Mcl K C) (D : Fd K "many" "Machine.many" (inClass cM 1) [] g) : Fo P w K mg base 1 g (spMany K C) :=
  mk_pure D scMany (fun _ => rfl) (fun _ _ _ _ _ _ us hl => match us, hl with | [_], _ => rfl) fun z vs B M hp ha sb hr => by
    obtain ⟨v, rfl, h⟩ := allM1 ha
    exact b_cons (s_retD (Nx.refl sb) (ev_fMany T (ev_var 0 rfl h)))
theorem scNames : FnScope ["self"] ["self"] (defScope (inClass cM 2)) := ⟨rfl, rfl, rfl, by decide +kernel, rfl, by decide +kernel, by decide +kernel⟩
theorem ok_names (T : Mcl K C) (D : Fd K "names" "Machine.names" (inClass cM 2) [] g) : Fo P w K mg base 1 g (spNames K C) :=
  mk_pure D scNames (fun _ => rfl) (fun _ _ _ _ _ _ us hl => match us, hl with | [_], _ => rfl) fun z vs B M hp ha sb hr => by
    obtain ⟨v, rfl, h⟩ := allM1 ha
    exact b_cons (s_retD (Nx.refl sb) (ev_fNames T (ev_var 0 rfl h)))
theorem scShows : FnScope ["self"] ["self"] (defScope (inClass cM 3)) := ⟨rfl, rfl, rfl, by decide +kernel, rfl, by decide +kernel, by decide +kernel⟩
theorem ok_shows (T : Mcl K C) (D : Fd K "shows" "Machine.shows" (inClass cM 3) [] g) : Fo P w K mg base 1 g (spShows K C) :=
  mk_pure D scShows (fun _ => rfl) (fun _ _ _ _ _ _ us hl => match us, hl with | [_], _ => rfl) fun z vs B M hp ha sb hr => by
    obtain ⟨v, rfl, h⟩ := allM1 ha
    exact b_cons (s_retD (Nx.refl sb) (ev_fShows T (ev_var 0 rfl h)))
theorem at_map {α : Type} {f : α → PyData} {l : List α} {i : Nat} (d : α) (h : i < l.length) : (l.map f)[i]? = some (f (l.getD i d)) := by
  rw [List.getElem?_map, List.getElem?_eq_getElem h, List.getD_eq_getElem?_getD, List.getElem?_eq_getElem h]
  rfl
theorem scMark : FnScope ["self", "state"] ["self", "state"] (defScope (inClass cM 14)) := ⟨rfl, rfl, rfl, by decide +kernel, rfl, by decide +kernel, by decide +kernel⟩
theorem ok_mark (T : Mcl K C) (D : Fd K "mark" "Machine.mark" (inClass cM 14) [] g) : Fo P w K mg base 1 g (spMark K C) :=
  mk_pure D scMark (fun _ => rfl) (fun _ _ _ _ _ _ us hl => match us, hl with | [_, _], _ => rfl) fun z vs B ⟨M, i⟩ hp ha sb hr => by
    obtain ⟨v, u, rfl, h, h2⟩ := allM2 ha
    exact b_cons (s_retD (Nx.refl sb) (ev_ixL (ev_fMarks T (ev_var 0 rfl h)) (ev_var 1 rfl h2) (at_map 0 hp)))
theorem mem_eS {x : Str} {l : List Str} : eS x ∈ l.map eS ↔ x ∈ l := by simp
theorem flat_eS (l : List Str) : (l.map eS).all flatD = true := by simp [flatD]
theorem flat_eN (l : List Nat) : (l.map eN).all flatD = true := by simp [flatD]
theorem mem_eN {x : Nat} {l : List Nat} : eN x ∈ l.map eN ↔ x ∈ l := by
  rw [List.mem_map]
  constructor
  · rintro ⟨y, h, e⟩
    have : (y : Int) = (x : Int) := by injection e
    have h2 : y = x := by omega
    exact h2 ▸ h
  · exact fun h => ⟨x, h, rfl⟩
theorem scGet : FnScope ["self", "name"] ["self", "name"] (defScope (inClass cM 6)) := ⟨rfl, rfl, rfl, by decide +kernel, rfl, by decide +kernel, by decide +kernel⟩
theorem ok_get (T : Mcl K C) (D : Fd K "__getitem__" "Machine.__getitem__" (inClass cM 6) [] g) : Fo P w K mg base 1 g (spGet K C) :=
  mk_pure D scGet (fun _ => rfl) (fun _ _ _ _ _ _ us hl => match us, hl with | [_, _], _ => rfl) fun z vs B ⟨M, x⟩ hp ha sb hr => by
    obtain ⟨v, u, rfl, h, h2⟩ := allM2 ha
    have hx : x ∈ M.nms := hp.2.pm.mem_iff.mpr hp.1
    refine b_cons (s_skip sb (ET.is (et_notIn (q := x ∈ M.nms) (ev_var 1 rfl h2) (ev_fNames T (ev_var 0 rfl h)).ofT rfl (flat_eS _) mem_eS) (by simp [hx])) fun B1 H1 x1 => ?_)
    exact b_cons (s_retD x1 (ev_getMv hr.u1 (ev_fMoves T (ev_var 0 rfl ((machM K C M).mono x1.b h))) (ev_var 1 rfl (dp_same x1.b h2)) hp.1))
theorem scHas : FnScope ["self", "name"] ["self", "name"] (defScope (inClass cM 8)) := ⟨rfl, rfl, rfl, by decide +kernel, rfl, by decide +kernel, by decide +kernel⟩
theorem ok_has (T : Mcl K C) (L : Bl mg) (D : Fd K "__contains__" "Machine.__contains__" (inClass cM 8) [] g) : Fo P w K mg base 1 g (spHas K C) :=
  mk_pure D scHas (fun _ => rfl) (fun _ _ _ _ _ _ us hl => match us, hl with | [_, _], _ => rfl) fun z vs B ⟨M, x⟩ hp ha sb hr => by
    obtain ⟨v, u, rfl, h, h2⟩ := allM2 ha
    refine b_cons (s_retD (Nx.refl sb) ?_)
    exact EV.is (ev_and (k := true) (ev_isi L.isi (ev_var 1 rfl h2) (ev_const (pe_bltn (by rfl) L.str (by decide +kernel) (show RelV (.ty "str") _ from rfl)) fun _ => rfl) (show kitB "str" "str" = some true by decide +kernel)) fun _ => ev_in (q := x ∈ M.nms) (ev_var 1 rfl h2) (ev_fNames T (ev_var 0 rfl h)).ofT rfl (flat_eS _) mem_eS) (by simp)
end
end K7
/-! set(list of whole numbers). -/
namespace K7
open PySem PySem.Spec PyProof.Rows L2
section
variable {P : Program} {w : World} {A : Around} {E : Value → Shared → Prop} {s : Shared}
set_option maxHeartbeats 4000000 in
theorem setOfListR {l : Addr} {its : Array Value} (ks : List Int) {Q : Value → Shared → Prop} (hA : A.handled = none) (hL : s.heap.IsList l its) (hi : IntsAre its.toList ks) (hk : ks.length + 1 < scanBound)
    (fin : ∀ (h2 : Heap) (t c : Nat), SetR w h2 s.heap.objs.size (fun j => decide (j ∈ ks)) c → c ≤ ks.length → (∀ b o, s.heap.get? b = some o → h2.get? b = some o) → Q (.ref s.heap.objs.size) { s with heap := h2, toks := t }) :
    wpAny (model P w) A (call (.type "set") [.ref l]) Q E s := by
  have hn : its.size = ks.length := by
    have := IntsAre.length hi
    rwa [Array.length_toList] at this
  generalize hnew : ({ cls := .type "set", dict := none, data := .set #[] 0 (.fresh 0 0 (!w.params.followText "set-order")) } : Obj) = nu
  have free : nu.isFreed = false := by subst hnew; rfl
  have cl : nu.cls = .type "set" := by subst hnew; rfl
  have at0 : (s.heap.push nu).get? s.heap.objs.size = some nu := Heap.get?_push_size _ free
  have ty : Shared.TypeIs { s with heap := s.heap.push nu } (.ref s.heap.objs.size) "set" := ⟨_, at0, cl⟩
  obtain ⟨mc, mt, e1⟩ := F.called_set.mro
  have e2 := F.called_set.made
  have e3 := F.called_set.sub
  have e4 := F.called_set.notType
  have e5 := F.called_set.canCreate
  have e6 := F.typeCall_set_1 (.ref l)
  refine wpAny_call (codeAny_of_tree ?_)
  show wpAny _ _ (callAny (.type "set") _) _ _ _
  refine wpAny_pure ⟨Code.quiet_builtin _ (by decide +kernel), codeAny_builtin F.entry_type_call ?_⟩
  rw [Around.under_plain (weight_type_call_type "set" [Value.ref l] []) rfl]
  repeat any_goals (first | assumption | wp_step)
  refine codeAny_mono (code_set_led1 (.ref l) (E := E) (Q₁ := fun u z => u = .ref s.heap.objs.size ∧ z = { s with heap := s.heap.push nu }) (by subst hnew; exact ⟨rfl, rfl⟩)) fun r z hr => ?_
  match r, hr with
  | .error e, hr => exact hr
  | .ok .next, hr => exact hr.elim
  | .ok .brk, hr => exact hr.elim
  | .ok .cont, hr => exact hr.elim
  | .ok (.ret u), hr =>
    obtain ⟨rfl, rfl⟩ := hr
    have e7 := F.called_set.init.lookup
    have e8 := F.called_set.init.bind (Value.ref s.heap.objs.size)
    repeat any_goals (first | assumption | wp_step)
    refine codeAny_mono (codeAny_call_builtin (R := wants (fun r z => r = .none ∧ ∃ h2 t c, z = { s with heap := h2, toks := t } ∧ SetR w h2 s.heap.objs.size (fun j => decide (j ∈ ks)) c ∧ c ≤ ks.length ∧ ∀ b o, s.heap.get? b = some o → h2.get? b = some o) E)
      F.called_set.init.plain F.entry_set_init (check_set_init_1 ty ?_)) fun r2 z2 hr2 => ?_
    · obtain ⟨⟨oc, od, dt0, osl⟩, hol, hcl, nl, hdl⟩ := hL
      have hcl : oc = .type "list" := hcl
      have hdl : dt0 = .seq its nl := hdl
      subst hcl hdl
      have at1 : (s.heap.push nu).get? l = some ⟨.type "list", od, .seq its nl, osl⟩ := Heap.get?_push_of_some _ hol
      have k1 := F.sub_list_set
      have k2 := F.sub_list_frozenset
      have k3 : (Value.type "list" == Value.type "dict") = false := by decide
      have isL : (s.heap.push nu).IsList l its := ⟨_, at1, rfl, nl, rfl⟩
      have lt : l < s.heap.objs.size := Heap.lt_size hol
      have sz : (s.heap.push nu).objs.size = s.heap.objs.size + 1 := Heap.size_push ..
      have ne1 : l ≠ (s.heap.push nu).objs.size := by
        rw [sz]
        exact Nat.ne_of_lt (Nat.lt_succ_of_lt lt)
      have out : s.heap.objs.size ∉ [(s.heap.push nu).objs.size, l] := by
        rw [sz]
        intro q
        rcases List.mem_cons.mp q with q | q
        · exact absurd q (Nat.ne_of_lt (Nat.lt_succ_self _))
        · exact absurd (List.mem_singleton.mp q) (Nat.ne_of_gt lt)
      have vals : ∀ (i : Nat) (v : Value), its[i]? = some v → ∃ k t, ks[i]? = some k ∧ v = .int k t := fun i v hv => by
        have hi2 : i < ks.length := by
          rw [← hn]
          exact (Array.getElem?_eq_some_iff.mp hv).1
        obtain ⟨t, e⟩ := IntsAre.int_at hi i v (by rwa [Array.getElem?_toList])
        exact ⟨ks[i], t, List.getElem?_eq_getElem hi2, by rw [e, List.getD_eq_getElem?_getD, List.getElem?_eq_getElem hi2]; rfl⟩
      subst hnew
      unfold Builtin.«set.__init__» noKeywords Builtin.Frozenset.updateFrom
      generalize keep : pyIter = it0
      wp_walk
      subst keep
      refine wpAny_pyIter_list isL ?_
      refine wpAny_bind (wpAny_runValue ?_)
      refine set_update_ints ((Walks.list (by simp [hA]) _ l ne1 its).toS) s.heap.objs.size out ks hn hk vals (its.size - 0) 0 _ (by omega) (Nat.zero_le _) ⟨⟨_, Heap.get?_push_size _ rfl, rfl, rfl⟩, isL.push _⟩ ⟨0, Nat.le_refl 0, setR_new_at ?_⟩ ?_
      · exact Heap.get?_push_of_some _ at0
      · rintro ⟨h2, g2, d2, t2, o2⟩ c2 hm hc2 hS2
        have q1 : g2 = s.gens := hm.gens
        have q2 : d2 = s.drawn := hm.drawn
        have q3 : o2 = s.os := hm.os
        subst q1 q2 q3
        refine wpAny_pure (wpAny_pure (M := model P w) ⟨rfl, h2, t2, c2, rfl, hS2, hn ▸ hc2, fun b o e => ?_⟩)
        have b0 : b < s.heap.objs.size := Heap.lt_size e
        refine hm.heap b o (fun q => ?_) (Heap.get?_push_of_some _ (Heap.get?_push_of_some _ e))
        rcases List.mem_cons.mp q with q | q
        · exact absurd q (Nat.ne_of_lt b0)
        · exact absurd ((List.mem_singleton.mp q).trans sz) (Nat.ne_of_lt (Nat.lt_succ_of_lt b0))
    · match r2, hr2 with
      | .error e, hr2 => exact hr2
      | .ok .next, hr2 => exact hr2.elim
      | .ok .brk, hr2 => exact hr2.elim
      | .ok .cont, hr2 => exact hr2.elim
      | .ok (.ret r), hr2 =>
        obtain ⟨rfl, h2, t, c, rfl, hS2, hc2, hk2⟩ := hr2
        repeat any_goals (first | assumption | wp_step)
        exact fin _ _ _ hS2 hc2 hk2
end
end K7
/-! sorted(set(list of whole numbers)); enumerate(tuple). -/
namespace K7
open PySem PySem.Spec PyProof.Rows L2
section
variable {X : Cx} {e : Expr} {σ : L2.St} {B : Hp} {pos p p2 : Pos}
def rSetL (K : PySem.W.Frag) (w : World) : List V → Hp → VK → Prop := fun vs H Q => ∃ (l : Addr) (ks : List Int), vs = [.ref l] ∧ SqL K H l (ks.map V.int) ∧ ks.length ≤ 1000 ∧
  ∀ (a : Addr) (c : Nat), H a = none → c ≤ ks.length → Q (.ref a) (upd H a (SetO w a (fun j => decide (j ∈ ks)) c))
theorem cr_setL (hc : X.calm = true) : CallR X (.type "set") (rSetL X.K X.w) := by
  intro pins s σ H vs us Q I r h
  obtain ⟨l, ks, rfl, hl, hk, q⟩ := h
  rw [Vals.ref1 r]
  obtain ⟨its, rv, p, hz⟩ := I.list hl
  refine setOfListR (P := X.prog) ks (I.ok.hd hc) p.isList (by simpa using ints_of_vals rv) (by unfold scanBound; omega) fun h2 t c hS hc2 old => ?_
  exact ⟨.ref _, upd H s.heap.objs.size (SetO X.w s.heap.objs.size (fun j => decide (j ∈ ks)) c), I.laid (t' := t) old (Nat.le_refl _) (setO_new hS), rfl, q _ c (I.hok.fresh (Nat.le_refl _)) hc2⟩
/-- two strictly ascending rows of the same numbers -/
theorem asc_eq : ∀ {l m : List Int}, l.Pairwise (· < ·) → m.Pairwise (· < ·) → (∀ k, k ∈ l ↔ k ∈ m) → l = m
  | [], [], _, _, _ => rfl
  | [], b :: m, _, _, h => by simpa using (h b).mpr (List.mem_cons_self ..)
  | a :: l, [], _, _, h => by simpa using (h a).mp (List.mem_cons_self ..)
  | a :: l, b :: m, h1, h2, h => by
    obtain ⟨p1, p2⟩ := List.pairwise_cons.mp h1
    obtain ⟨q1, q2⟩ := List.pairwise_cons.mp h2
    have e : a = b := by
      rcases List.mem_cons.mp ((h a).mp (List.mem_cons_self ..)) with x | x
      · exact x
      · rcases List.mem_cons.mp ((h b).mpr (List.mem_cons_self ..)) with y | y
        · exact y.symm
        · have := p1 b y
          have := q1 a x
          omega
    subst e
    refine congrArg (a :: ·) (asc_eq p2 q2 fun k => ⟨fun hk => ?_, fun hk => ?_⟩)
    · rcases List.mem_cons.mp ((h k).mp (List.mem_cons_of_mem _ hk)) with x | x
      · subst x
        exact absurd (p1 k hk) (by omega)
      · exact x
    · rcases List.mem_cons.mp ((h k).mpr (List.mem_cons_of_mem _ hk)) with x | x
      · subst x
        exact absurd (q1 k hk) (by omega)
      · exact x
theorem pw_isort (l : List Nat) : (isort l).Pairwise (· < ·) := List.Pairwise.filter _ (List.pairwise_lt_range ..)
theorem mem_isort {l : List Nat} (h : ∀ i ∈ l, i < 10) {k : Nat} : k ∈ isort l ↔ k ∈ l := by
  unfold isort
  rw [List.mem_filter, List.mem_range]
  exact ⟨fun h => by simpa using h.2, fun g => ⟨h k g, by simpa using g⟩⟩
theorem vals_dtI {K : PySem.W.Frag} {H : Hp} : ∀ {xs : List V} {l : List Nat}, DpAll K H xs (l.map eN) → xs = (l.map fun i : Nat => (i : Int)).map V.int
  | _, [], .nil => rfl
  | _, i :: l, .cons a b => by
    rw [dp_i a, vals_dtI b]
    rfl
theorem dpa_int {K : PySem.W.Frag} {H : Hp} : ∀ (l : List Int), DpAll K H (l.map V.int) (l.map PyData.int)
  | [] => .nil
  | i :: l => .cons (.int i) (dpa_int l)
/-- sorted(set(e)), e a list of few numbers below 10 -/
theorem ev_sortedSet {l : List Nat} (hc : X.calm = true) (hm : X.mg "sorted" = none) (hm2 : X.mg "set" = none) (h : EV X e σ B (dt X.K (eLN l))) (hl : ∀ i ∈ l, i < 10) (hz : l.length < 64) {pos2 : Pos} (hg : Gl X "sorted" := by rfl) (hg2 : Gl X "set" := by rfl)
    (h1 : starEach [.Call (.Name "set" p2) [e] [] pos2] X.env = (false, eval (.Call (.Name "set" p2) [e] [] pos2) X.env) :: starEach [] X.env := by rfl) (h2 : starEach [e] X.env = (false, eval e X.env) :: starEach [] X.env := by rfl) :
    EV X (.Call (.Name "sorted" p) [.Call (.Name "set" p2) [e] [] pos2] [] pos) σ B (dt X.K (eLN (isort l))) :=
  ev_of (pe_callB (cr_sortedSet hc) hg hm (by decide +kernel) (pa_cons (pe_callTy (cr_setL hc) hg2 hm2 (by decide +kernel) (pa_cons pe_w pa_nil h2) (by decide) (by decide) h2 rfl) pa_nil h1) (by decide) (by decide) h1 rfl) fun H s Q q => h H s _ fun v B1 H1 x1 pv => by
    obtain ⟨a, xs, rfl, hq, hd⟩ := dp_l pv
    have ex := vals_dtI hd
    refine ⟨a, l.map fun i : Nat => (i : Int), rfl, ex ▸ same_l x1.s hq, by rw [List.length_map]; omega, fun t c ht hcl => ⟨t, _, c, rfl, upd_same, by rw [List.length_map] at hcl; omega, fun ns p hpw hmem hlen hp => ?_⟩⟩
    have b1 : B1 t = none := by
      cases e : B1 t with
      | none => rfl
      | some o =>
        rw [x1.s _ _ e] at ht
        cases ht
    have x2 := ((Nx.refl x1.s).hid (o := SetO X.w t (fun j => decide (j ∈ l.map fun i : Nat => (i : Int))) c) ht b1).put (o := .lst (ns.map V.int)) hp
    refine q _ _ _ (x1.trans x2) ?_
    have e : ns = (isort l).map fun i : Nat => (i : Int) := by
      refine asc_eq hpw ?_ fun k => ?_
      · rw [List.pairwise_map]
        exact (pw_isort l).imp fun h => by omega
      · rw [hmem, decide_eq_true_iff, List.mem_map, List.mem_map]
        exact exists_congr fun i => and_congr_left' (mem_isort hl).symm
    subst e
    have g := dpa_int (K := X.K) (H := upd B1 p (.lst (((isort l).map fun i : Nat => (i : Int)).map V.int))) ((isort l).map fun i : Nat => (i : Int))
    have e3 : ((isort l).map fun i : Nat => (i : Int)).map PyData.int = (isort l).map eN := by rw [List.map_map]; rfl
    rw [e3] at g
    exact .lst (.inl (.inl upd_same)) g
end

/-! ### enumerate of a tuple -/
set_option maxHeartbeats 1000000 in
theorem meets_enum1 {v : Value} {o : Obj} {G : Heap → Prop} (b : Begins v o G) :
    Meets (Builtin.«enumerate.__new__» ⟨[.type "enumerate", v], []⟩) (fun _ R s => G s.heap ∧
      R (.ok (.ret (.ref (s.heap.push o).objs.size))) { s with heap := (s.heap.push o).push { cls := .type "enumerate", data := .fields #[.none, .bool false, .ref s.heap.objs.size, rawInt 0, .none, .none] } }) :=
  .of_wp fun prog w A R s h => by
    obtain ⟨hp, g, d, tk, os⟩ := s
    obtain ⟨g0, h⟩ := h
    have k0 := sub_enumerate
    have k1 : ∀ {A' : Around} {E Q : Value → Shared → Prop}, Q (.ref hp.objs.size) ⟨hp.push o, g, d, tk, os⟩ → wpAny (model prog w) A' (pyIter v) Q E ⟨hp, g, d, tk, os⟩ := fun q => b.iter prog w _ _ ⟨hp, g, d, tk, os⟩ _ g0 q
    wp_walk using k1
    refine wpAny_stack_any fun st => ?_
    refine wpAny_pure ?_
    split
    · rename_i c _ _ _ _ _
      cases (c == Value.type "enumerate") <;> (wp_walk using k1; exact ⟨_, rfl, h⟩)
    · wp_walk using k1
      exact ⟨_, rfl, h⟩
theorem call_enumT {P : Program} {w : World} {A : Around} {E : Value → Shared → Prop} {s : Shared} {l : Addr} {its : Array Value} {Q : Value → Shared → Prop} (hT : s.heap.IsTuple l its)
    (h : ∀ h', IsEnum h' (s.heap.objs.size + 1) s.heap.objs.size 0 .none → h'.get? s.heap.objs.size = some { cls := .type "tuple_iterator", data := .fields #[.ref l, .int 0 0] } → (∀ b o, s.heap.get? b = some o → h'.get? b = some o) → Q (.ref (s.heap.objs.size + 1)) { s with heap := h' }) :
    wpAny (model P w) A (call (.type "enumerate") [.ref l]) Q E s := by
  refine callType_new F.called_enumerate (by decide) (F.typeCall_enumerate_1 _) (F.newCall_enumerate_1 _) (fun obj => F.args_object_init_2 obj _) F.entry_enumerate_new (meets_enum1 (begins_tuple l its)) ⟨hT, ?_⟩
  generalize ho : ({ cls := .type "tuple_iterator", data := .fields #[.ref l, .int 0 0] } : Obj) = o at h ⊢
  have free : o.isFreed = false := by subst ho; rfl
  have sz : (s.heap.push o).objs.size = s.heap.objs.size + 1 := Heap.size_push ..
  show _ ∧ _
  rw [sz]
  have en : IsEnum ((s.heap.push o).push { cls := .type "enumerate", data := .fields #[.none, .bool false, .ref s.heap.objs.size, rawInt 0, .none, .none] }) (s.heap.objs.size + 1) s.heap.objs.size 0 .none := by
    have q := Heap.get?_push_size (s.heap.push o) (o := { cls := .type "enumerate", data := .fields #[.none, .bool false, .ref s.heap.objs.size, rawInt 0, .none, .none] }) rfl
    rwa [sz] at q
  exact ⟨⟨_, en, rfl⟩, h _ en (Heap.get?_push_of_some _ (Heap.get?_push_size _ free)) fun b u e => Heap.get?_push_of_some _ (Heap.get?_push_of_some _ e)⟩
/-- the tuple at a as it stands at each turn, each item in a new pair -/
def IteT (K : PySem.W.Frag) (a : Addr) : It :=
  ⟨fun i H => ∃ (xs : List V) (x : V), SqT K H a xs ∧ xs[i]? = some x, fun i H v H' => ∃ T x, v = .ref T ∧ H T = none ∧ H' = upd H T (.tup [.int (i : Nat), x]) ∧ ∀ xs, SqT K H a xs → xs[i]? = some x, fun i H => ∃ xs : List V, SqT K H a xs ∧ xs.length ≤ i⟩
def tnT (e it a : Addr) : Nat → Heap → Prop := fun i h => (∃ old, IsEnum h e it ((i : Nat) : Int) old) ∧ h.IsTupleIter it a i ∧ e ≠ it ∧ e ≠ a ∧ a ≠ it
theorem enumT_end {P : Program} {w : World} {A : Around} {E : Value → Shared → Prop} {s : Shared} {e it a : Addr} {i : Int} {j : Nat} {old : Value} {its : List Value} {Q : Option Value → Shared → Prop} (hh : A.handled = none) (he : IsEnum s.heap e it i old) (hit : s.heap.IsTupleIter it a j) (p : IsTup s.heap a its.toArray) (hj : its.length ≤ j)
    (hQ : ∀ h', Heap.ExtBut it s.heap h' → Q none { s with heap := h' }) : wpAny (model P w) A (pyNext (.ref e)) Q E s := by
  have hT : s.TypeIs (.ref e) "enumerate" := ⟨_, he, rfl⟩
  unfold pyNext
  refine wpAny_bind (wpAny_attempt (wpAny_callSpecial?_slot (name := Str.ofString "__next__") hT F.slot_enumerate_next (wpAny_call_entry F.slot_enumerate_next hT F.entry_enumerate_next ?_ (F.args_enumerate_next_1 _))))
  show wpAny _ _ (field (.ref e) 2 >>= _) _ _ _
  refine wpAny_bind (wpAny_field he rfl (x := .ref it) rfl ?_)
  refine wpAny_bind (wpAny_nextOf_tuple_end (by simp [hh]) hit p (by simpa using hj) fun h' x he' hx' => ?_)
  obtain ⟨o, ho, hc⟩ := hx'
  exact wpAny_bind (wpAny_isInstance (T := "StopIteration") (b := true) ⟨o, ho, hc⟩ isSubtype_stop (wpAny_pure (hQ _ he')))
theorem turn_enumT {P : Program} {w : World} {K : PySem.W.Frag} {elts : List Expr} {kk : Nat} {tpos : Pos} (a e it : Addr) : Turn P w K (.Tuple elts kk tpos) (IteT K a) [e, it] e (tnT e it a) where
  mem := List.mem_cons_self ..
  obj := fun i h st b hb => by
    obtain ⟨⟨old, he⟩, ⟨o, ho, hc, hd⟩, _⟩ := st
    rcases List.mem_cons.mp hb with z | z
    · subst z
      exact ⟨_, he, fun v q => nomatch q⟩
    · have z := List.mem_singleton.mp z
      subst z
      exact ⟨o, ho, fun v q => by rw [hd] at q; cases q⟩
  keep := fun i h h' st k => let ⟨⟨old, he⟩, hi, r⟩ := st; ⟨⟨old, k e (by simp) _ he⟩, hi.at fun o q => k it (by simp) o q, r⟩
  item := by
    intro X q1 q2 q3 hc i pins s σ H E I hf st hg
    subst q1 q2 q3
    obtain ⟨⟨old, he⟩, hit, n1, n2, n3⟩ := st
    obtain ⟨xs, x, hq, hx⟩ := hg
    obtain ⟨its, rv, p, hz⟩ := I.tuple hq
    obtain ⟨u, hu, ru⟩ := rv.get hx
    have le : e < s.heap.objs.size := Heap.lt_size he
    have li : it < s.heap.objs.size := by
      obtain ⟨_, q, _⟩ := hit
      exact Heap.lt_size q
    have hlt : i < its.toArray.size := by
      rw [List.size_toArray]
      exact (List.getElem?_eq_some_iff.mp hu).1
    refine wpAny_pyNext_enum_itemD (Draws.tuple (by simp [I.ok.hd hc]) it a n3 its.toArray) he ⟨hit, p⟩ hlt n1 (by simp [n1, n2]) fun y h1 tk hy ho hst hT hsz hk => ?_
    have ey : y = u := by
      have e1 : its[i]? = some y := by simpa using hy
      rw [hu] at e1
      cases e1
      rfl
    subst ey
    refine ⟨_, rfl, wpAny_letOwnedTupleGo_enum (s := { s with heap := h1, toks := tk + 1 }) ho fun h2 he2 sb => ?_⟩
    have T2 : h2.get? s.heap.objs.size = some { cls := .type "tuple", data := .seq #[.int i tk, y] } := (sb.2 _ (Nat.ne_of_gt le)).trans hT
    have old2 : ∀ b ob, b ∉ [e, it] → s.heap.get? b = some ob → h2.get? b = some ob := fun b ob hb q => by
      have b1 : b ≠ e := fun z => hb (by simp [z])
      exact (sb.2 b b1).trans (hk b ob b1 (fun z => hb (by simp [z])) q)
    have new : ObjOk X.prog X.w (upd H s.heap.objs.size (.tup [.int (i : Nat), x])) h2 s.heap.objs.size (.tup [.int (i : Nat), x]) := ⟨by show 2 ≤ sizeLine; decide, [.int i tk, y], .cons ⟨_, rfl⟩ (.cons ru .nil), ⟨_, T2, rfl, _, rfl⟩⟩
    have I1 : Inv X pins σ (upd H s.heap.objs.size (.tup [.int (i : Nat), x])) { s with heap := h2, toks := tk + 1 } := I.turnedNew (ch := [e, it]) old2 hf (Nat.le_refl _) new
    refine ⟨.ref s.heap.objs.size, _, I1, rfl, ⟨_, x, rfl, I.hok.fresh (Nat.le_refl _), rfl, fun ys hy => by rw [I.tuple_inj hy hq]; exact hx⟩, ⟨⟨y, ?_⟩, hst.1.at fun o q => (sb.2 it (Ne.symm n1)).trans q, n1, n2, n3⟩, fun b hb => ?_⟩
    · have e1 : ((i + 1 : Nat) : Int) = (i : Int) + 1 := by omega
      rw [e1]
      exact he2
    · have lb : b < s.heap.objs.size := by
        rcases List.mem_cons.mp hb with z | z
        · rw [z]; exact le
        · rw [List.mem_singleton.mp z]; exact li
      rw [upd_ne (Nat.ne_of_lt lb)]
      exact (hf b hb).1
  done := by
    intro X q1 q2 q3 hc i pins s σ H E I hf st hg
    subst q1 q2 q3
    obtain ⟨⟨old, he⟩, hit, n1, n2, n3⟩ := st
    obtain ⟨xs, hq, hx⟩ := hg
    obtain ⟨its, rv, p, hz⟩ := I.tuple hq
    obtain ⟨f0, f1, f2, f3, f4, f5⟩ := hf it (by simp)
    have hl := rv.length
    refine enumT_end (I.ok.hd hc) he hit p (by omega) fun h' eb => ⟨rfl, I.turned (t' := s.toks) (fun b o hb q => eb b o hb q) f0 f1 f3 f4 f5⟩
  self := fun A i s Q E st h => let ⟨⟨_, he⟩, _⟩ := st; wpAny_pyIter_enum he h
def iEnumT (K : PySem.W.Frag) (ta : TA) : TI := fun σ H R => ta σ H fun vs H1 => ∃ a xs, vs = [.ref a] ∧ SqT K H1 a xs ∧ R (IteT K a) H1
theorem pi_enumT {X : Cx} {e : Expr} {ta : TA} {p pos tpos : Pos} {elts : List Expr} {kk : Nat} (hg : Gl X "enumerate") (hm : X.mg "enumerate" = none) (ha : PA X [e] ta) (hs : starEach [e] X.env = [(false, eval e X.env)] := by rfl) :
    PI X (.Tuple elts kk tpos) (.Call (.Name "enumerate" p) [e] [] pos) (iEnumT X.K ta) := by
  refine ⟨fun pins s σ H R I h => ?_⟩
  refine Call_ (ld_blt I hg hm boot_enumerate (PyProof.Rows.callWith_type1 (thn (ha.run pos pins s σ H _ I h) fun us s1 ⟨vs, H1, I1, r1, a, xs, ex, hq, q⟩ => ?_) hs rfl))
  subst ex
  rw [Vals.ref1 r1]
  obtain ⟨its, rv, p', hz⟩ := I1.tuple hq
  have la : a < s1.heap.objs.size := by
    obtain ⟨_, z, _⟩ := p'
    exact Heap.lt_size z
  refine call_enumT p' fun h' he hit hk => wpAny_pyIter_enum he ?_
  have I2 : Inv X pins σ H1 { s1 with heap := h' } := I1.kept (t' := s1.toks) hk
  refine ⟨s1.heap.objs.size + 1, [s1.heap.objs.size + 1, s1.heap.objs.size], _, _, H1, rfl, I2, turn_enumT a (s1.heap.objs.size + 1) s1.heap.objs.size, ⟨⟨.none, he⟩, ⟨_, hit, rfl, rfl⟩, Nat.succ_ne_self _, Nat.ne_of_gt (Nat.lt_succ_of_lt la), Nat.ne_of_lt la⟩, fun b hb => ?_, q⟩
  have lb : s1.heap.objs.size ≤ b := by
    rcases List.mem_cons.mp hb with z | z
    · rw [z]; exact Nat.le_add_right _ _
    · rw [List.mem_singleton.mp z]; exact Nat.le_refl _
  exact I1.fpOk lb (I1.hok.fresh lb)
theorem walk_enumT {K : PySem.W.Frag} {a : Addr} {xs : List V} : Walk (IteT K a) xs.length (fun H => SqT K H a xs) (YPair (fun i => some (.int (i : Nat))) (fun i => xs[i]?)) :=
  ⟨fun i _ hi q => ⟨xs, xs[i], q, List.getElem?_eq_getElem hi⟩, fun _ q => ⟨xs, q, Nat.le_refl _⟩, fun i H v H' _ q ⟨T, x, h1, h2, h3, h4⟩ => ⟨T, .int (i : Nat), x, h1, h2, h3, rfl, h4 xs q⟩⟩
theorem sn_enumT {X : Cx} {e : Expr} {σ : L2.St} {B : Hp} {pos p : Pos} {ds : List PyData} {elts : List Expr} {kk : Nat} {tpos : Pos} (hm : X.mg "enumerate" = none) (h : EV X e σ B (dt X.K (.tuple ds))) (hg : Gl X "enumerate" := by rfl) (hs : starEach [e] X.env = (false, eval e X.env) :: starEach [] X.env := by rfl) :
    SN X (.Tuple elts kk tpos) (.Call (.Name "enumerate" p) [e] [] pos) σ B ds.zipIdx fun q => prM (dt X.K (.int (q.2 : Nat))) (dt X.K q.1) := fun H s R r => i_of (pi_enumT hg hm (pa_cons pe_w pa_nil hs) hs) (h H s _ fun v B1 H1 x1 pv => by
  obtain ⟨a, xs, rfl, hl, hd⟩ := dp_t pv
  refine ⟨a, xs, rfl, same_t x1.s hl, r _ _ _ x1 ?_⟩
  rw [List.length_zipIdx, ← dpa_len hd]
  exact walk_enumT.mono (fun H' s => same_t s hl) fun i H' x H'' _ s y => by
    obtain ⟨T, u, z, rfl, nT, rfl, e1, e2⟩ := y
    cases e1
    obtain ⟨d, e3, g⟩ := dpa_at hd e2
    have x2 := (Nx.refl s).put (o := .tup [.int (i : Nat), z]) nT
    exact ⟨x2.h, (d, i), _, by rw [List.getElem?_zipIdx, e3]; simp, x2, T, _, z, rfl, upd_same, .int _, dp_same x2.b g⟩)
end K7
/-! The plain law, first part: marks come to rest. -/
namespace K7
open PySem
section
variable {α : Type} [DecidableEq α]
theorem firsts_len (l : List α) : (firsts l).length = l.length := by simp [firsts]
theorem firsts_at {l : List α} {a : Nat} (d : α) (h : a < l.length) : (firsts l).getD a 0 = l.findIdx fun z => decide (z = l.getD a d) := by
  have e : l[a]? = some (l.getD a d) := by
    rw [List.getD_eq_getElem?_getD, List.getElem?_eq_getElem h]
    rfl
  rw [List.getD_eq_getElem?_getD]
  unfold firsts
  rw [List.getElem?_map, e]
  rfl
theorem find_le {l : List α} {a : Nat} {x : α} (h : l[a]? = some x) : l.findIdx (fun z => decide (z = x)) ≤ a := by
  rcases Nat.lt_or_ge a (l.findIdx fun z => decide (z = x)) with g | g
  · obtain ⟨h1, h2⟩ := List.getElem?_eq_some_iff.mp h
    have := List.not_of_lt_findIdx g
    simp [h2] at this
  · exact g
theorem find_hit {l : List α} {x : α} (h : x ∈ l) : l[l.findIdx fun z => decide (z = x)]? = some x := by
  have lt : l.findIdx (fun z => decide (z = x)) < l.length := List.findIdx_lt_length_of_exists ⟨x, h, by simp⟩
  rw [List.getElem?_eq_getElem lt]
  have := List.findIdx_getElem (p := fun z => decide (z = x)) (w := lt)
  simpa using this
end
/-- first places: each number names the first place of its block -/
structure Canon (n : Nat) (m : List Nat) : Prop where
  len : m.length = n
  le : ∀ a, a < n → m.getD a 0 ≤ a
  idem : ∀ a, a < n → m.getD (m.getD a 0) 0 = m.getD a 0
theorem getD_some {α : Type} {l : List α} {a : Nat} (d : α) (h : a < l.length) : l[a]? = some (l.getD a d) := by
  rw [List.getD_eq_getElem?_getD, List.getElem?_eq_getElem h]
  rfl
theorem canon_firsts {α : Type} [DecidableEq α] (d : α) (l : List α) : Canon l.length (firsts l) := by
  refine ⟨firsts_len l, fun a h => ?_, fun a h => ?_⟩
  · rw [firsts_at d h]
    exact find_le (getD_some d h)
  · have e1 := find_le (getD_some d h)
    rw [firsts_at d h]
    have h2 : (l.findIdx fun z => decide (z = l.getD a d)) < l.length := Nat.lt_of_le_of_lt e1 h
    rw [firsts_at d h2]
    have e2 := find_hit (List.mem_of_getElem? (getD_some d h))
    have e3 := getD_some d h2
    rw [e2] at e3
    have e4 : l.getD a d = l.getD (l.findIdx fun z => decide (z = l.getD a d)) d := by injection e3
    rw [← e4]
/-- the same first place: the same item -/
theorem firsts_same {α : Type} [DecidableEq α] (d : α) {l : List α} {a b : Nat} (ha : a < l.length) (hb : b < l.length) : (firsts l).getD a 0 = (firsts l).getD b 0 ↔ l.getD a d = l.getD b d := by
  rw [firsts_at d ha, firsts_at d hb]
  constructor
  · intro e
    have e1 := find_hit (List.mem_of_getElem? (getD_some d ha))
    have e2 := find_hit (List.mem_of_getElem? (getD_some d hb))
    rw [e, e2] at e1
    injection e1 with e1
    exact e1.symm
  · intro e
    rw [e]
def Refines (n : Nat) (m' m : List Nat) : Prop := ∀ a b, a < n → b < n → m'.getD a 0 = m'.getD b 0 → m.getD a 0 = m.getD b 0
def topsN (n : Nat) (m : List Nat) : List Nat := (List.range n).filter fun a => decide (m.getD a 0 = a)
theorem tops_up {n : Nat} {m m' : List Nat} (c : Canon n m) (c' : Canon n m') (r : Refines n m' m) {a : Nat} (h : a ∈ topsN n m) : a ∈ topsN n m' := by
  unfold topsN at h ⊢
  rw [List.mem_filter, List.mem_range] at h ⊢
  have h2 : m.getD a 0 = a := by simpa using h.2
  refine ⟨h.1, ?_⟩
  have e1 := c'.le a h.1
  have e2 := c'.idem a h.1
  have h3 : m'.getD a 0 < n := Nat.lt_of_le_of_lt e1 h.1
  have e3 := r _ _ h3 h.1 e2
  have e4 := c.le _ h3
  have : m'.getD a 0 = a := by omega
  simpa using this
theorem tops_len {n : Nat} (m : List Nat) : (topsN n m).length ≤ n := by
  have := List.length_filter_le (fun a => decide (m.getD a 0 = a)) (List.range n)
  rw [List.length_range] at this
  exact this
theorem list_ext_getD {l m : List Nat} (h : l.length = m.length) (e : ∀ a, a < l.length → l.getD a 0 = m.getD a 0) : l = m := by
  refine List.ext_getElem h fun i h1 h2 => ?_
  have := e i h1
  rw [List.getD_eq_getElem?_getD, List.getD_eq_getElem?_getD, List.getElem?_eq_getElem h1, List.getElem?_eq_getElem h2] at this
  exact this
theorem filter_len_imp {α : Type} {p q : α → Bool} : ∀ {l : List α}, (∀ a ∈ l, p a = true → q a = true) → (l.filter p).length ≤ (l.filter q).length ∧ ((l.filter p).length = (l.filter q).length → ∀ a ∈ l, p a = q a)
  | [], _ => by simp
  | x :: l, h => by
    obtain ⟨h1, h2⟩ := filter_len_imp (l := l) (p := p) (q := q) fun a m => h a (List.mem_cons_of_mem _ m)
    have hx := h x (List.mem_cons_self ..)
    cases ep : p x <;> cases eq : q x <;> simp [List.filter_cons, ep, eq] at hx ⊢
    · exact ⟨h1, h2⟩
    · refine ⟨by omega, fun e => by omega⟩
    · exact ⟨h1, h2⟩
/-- finer and as many blocks: the same -/
theorem canon_eq {n : Nat} {m m' : List Nat} (c : Canon n m) (c' : Canon n m') (r : Refines n m' m) (h : (topsN n m).length = (topsN n m').length) : m' = m := by
  have key := (filter_len_imp (l := List.range n) (p := fun a => decide (m.getD a 0 = a)) (q := fun a => decide (m'.getD a 0 = a)) fun a ha hp => by
    have : a ∈ topsN n m := List.mem_filter.mpr ⟨ha, hp⟩
    exact (List.mem_filter.mp (tops_up c c' r this)).2).2 h
  refine list_ext_getD (c'.len.trans c.len.symm) fun a ha => ?_
  rw [c'.len] at ha
  have e1 := c'.le a ha
  have e2 := c'.idem a ha
  have h3 : m'.getD a 0 < n := Nat.lt_of_le_of_lt e1 ha
  have k := key _ (List.mem_range.mpr h3)
  have e3 : m.getD (m'.getD a 0) 0 = m'.getD a 0 := by
    have : decide (m'.getD (m'.getD a 0) 0 = m'.getD a 0) = true := by simpa using e2
    rw [← k] at this
    simpa using this
  have e4 := r _ _ h3 ha e2
  rw [e3] at e4
  exact e4
theorem tops_lt {n : Nat} {m m' : List Nat} (c : Canon n m) (c' : Canon n m') (r : Refines n m' m) (h : m' ≠ m) : (topsN n m).length < (topsN n m').length := by
  have le := (filter_len_imp (l := List.range n) (p := fun a => decide (m.getD a 0 = a)) (q := fun a => decide (m'.getD a 0 = a)) fun a ha hp => by
    have : a ∈ topsN n m := List.mem_filter.mpr ⟨ha, hp⟩
    exact (List.mem_filter.mp (tops_up c c' r this)).2).1
  rcases Nat.lt_or_eq_of_le le with g | g
  · exact g
  · exact absurd (canon_eq c c' r g) h
section
variable {M : Mac}
theorem rows_len (m : List Nat) : (rowsOf M m).length = M.n := by simp [rowsOf]
theorem rows_at (m : List Nat) {a : Nat} (h : a < M.n) : (rowsOf M m).getD a [] = m.getD a 0 :: M.nms.map fun x => m.getD (stp M x a) 0 := by
  rw [List.getD_eq_getElem?_getD]
  unfold rowsOf
  rw [List.getElem?_map, List.getElem?_range h]
  rfl
theorem canon_step (m : List Nat) : Canon M.n (step M m) := by
  have := canon_firsts ([] : List Nat) (rowsOf M m)
  rwa [rows_len] at this
theorem step_refines (m : List Nat) : Refines M.n (step M m) m := fun a b ha hb e => by
  have := (firsts_same ([] : List Nat) (by rwa [rows_len]) (by rwa [rows_len])).mp e
  rw [rows_at m ha, rows_at m hb] at this
  injection this
theorem canon_iter (h : M.sh.length = M.n) : ∀ i, Canon M.n (iter M i)
  | 0 => by
    have := canon_firsts (0 : Int) M.sh
    rwa [h] at this
  | i + 1 => canon_step _
theorem iter_up (h : M.sh.length = M.n) (i : Nat) : step M (iter M i) = iter M i ∨ (topsN M.n (iter M i)).length < (topsN M.n (iter M (i + 1))).length := by
  by_cases e : step M (iter M i) = iter M i
  · exact .inl e
  · exact .inr (tops_lt (canon_iter h i) (canon_step _) (step_refines _) e)
theorem iter_still {i : Nat} (h : step M (iter M i) = iter M i) : ∀ j, iter M (i + j) = iter M i
  | 0 => rfl
  | j + 1 => by
    show step M (iter M (i + j)) = _
    rw [iter_still h j, h]
theorem iter_many (h : M.sh.length = M.n) : ∀ i, (∃ j, j ≤ i ∧ step M (iter M j) = iter M j) ∨ i + 1 ≤ (topsN M.n (iter M (i + 1))).length
  | 0 => by
    rcases iter_up h 0 with e | e
    · exact .inl ⟨0, Nat.le_refl _, e⟩
    · exact .inr (by omega)
  | i + 1 => by
    rcases iter_many h i with ⟨j, hj, e⟩ | g
    · exact .inl ⟨j, by omega, e⟩
    · rcases iter_up h (i + 1) with e | e
      · exact .inl ⟨i + 1, Nat.le_refl _, e⟩
      · exact .inr (by omega)
theorem iter_rest (h : M.sh.length = M.n) : step M (iter M M.n) = iter M M.n := by
  rcases iter_many h M.n with ⟨j, hj, e⟩ | g
  · have e1 := iter_still e (M.n - j)
    rw [show j + (M.n - j) = M.n by omega] at e1
    rw [e1, e]
  · have := tops_len (n := M.n) (iter M (M.n + 1))
    omega
theorem iter_eq (h : M.sh.length = M.n) {i : Nat} (e : step M (iter M i) = iter M i) : iter M i = marks M := by
  unfold marks
  rcases Nat.le_total i M.n with g | g
  · have := iter_still e (M.n - i)
    rw [show i + (M.n - i) = M.n by omega] at this
    exact this.symm
  · have := iter_still (iter_rest h) (i - M.n)
    rw [show M.n + (i - M.n) = i by omega] at this
    exact this
theorem marks_rest (h : M.sh.length = M.n) : step M (marks M) = marks M := iter_rest h
theorem marks_len (h : M.sh.length = M.n) : (marks M).length = M.n := (canon_iter h M.n).len
theorem marks_lt (h : M.sh.length = M.n) {s : Nat} (hs : s < M.n) : (marks M).getD s 0 < M.n := Nat.lt_of_le_of_lt ((canon_iter h M.n).le s hs) hs
/-- like marks: like shows, like marks behind each deed -/
theorem iter_shows (h : M.sh.length = M.n) : ∀ (i : Nat) {a b : Nat}, a < M.n → b < M.n → (iter M i).getD a 0 = (iter M i).getD b 0 → M.sh.getD a 0 = M.sh.getD b 0
  | 0, a, b, ha, hb, e => (firsts_same (0 : Int) (by rwa [h]) (by rwa [h])).mp e
  | i + 1, a, b, ha, hb, e => iter_shows h i ha hb (step_refines _ a b ha hb e)
theorem marks_shows (h : M.sh.length = M.n) {a b : Nat} (ha : a < M.n) (hb : b < M.n) (e : (marks M).getD a 0 = (marks M).getD b 0) : M.sh.getD a 0 = M.sh.getD b 0 := iter_shows h _ ha hb e
theorem marks_stp (h : M.sh.length = M.n) {a b : Nat} (ha : a < M.n) (hb : b < M.n) (e : (marks M).getD a 0 = (marks M).getD b 0) {x : Str} (hx : x ∈ M.nms) : (marks M).getD (stp M x a) 0 = (marks M).getD (stp M x b) 0 := by
  have e1 : (step M (marks M)).getD a 0 = (step M (marks M)).getD b 0 := by rw [marks_rest h]; exact e
  have := (firsts_same ([] : List Nat) (by rwa [rows_len]) (by rwa [rows_len])).mp e1
  rw [rows_at _ ha, rows_at _ hb] at this
  injection this with _ this
  exact (List.map_inj_left.mp this) x hx
end
end K7
/-! The walks of machines.py: firsts_of, blocks_of, marks_of, check_states, checked, a machine's call. -/
namespace K7
open PySem PySem.Spec PyProof.Rows L2
def firstsD (ds : List PyData) : List Nat := ds.map fun d => ds.findIdx (fun z => PyData.eqv z d)
theorem firstsD_enc {α : Type} [DecidableEq α] {n : Nat} {enc : α → PyData} (inj : ∀ a b, enc a = enc b → a = b) (l : List α) (h : plainAll n (l.map enc) = true) : firstsD (l.map enc) = firsts l := by
  unfold firstsD firsts
  rw [List.map_map]
  refine List.map_congr_left fun a ha => ?_
  show (l.map enc).findIdx _ = _
  rw [List.findIdx_map]
  have hp := plainAll_iff.mp h
  have ea := hp _ (List.mem_map_of_mem ha)
  have : ∀ {m : List α}, (∀ b ∈ m, plain n (enc b) = true) → m.findIdx ((fun z => PyData.eqv z (enc a)) ∘ enc) = m.findIdx fun z => decide (z = a) := by
    intro m hm
    induction m with
    | nil => rfl
    | cons b m ih =>
      rw [List.findIdx_cons, List.findIdx_cons, ih fun c hc => hm c (List.mem_cons_of_mem _ hc)]
      have : ((fun z => PyData.eqv z (enc a)) ∘ enc) b = decide (b = a) := eqv_dec (hm b (List.mem_cons_self ..)) ea ⟨inj b a, fun e => by rw [e]⟩
      rw [this]
  exact this fun b hb => hp _ (List.mem_map_of_mem hb)
theorem mapc {α β γ : Type} (f : α → β) (g : β → γ) (l : List α) : l.map (fun a => g (f a)) = (l.map f).map g := by
  rw [List.map_map]
  rfl
section
variable {X : Cx} {a b c e : Expr} {σ : L2.St} {B : Hp} {pos p : Pos} {i j k : Nat}
theorem et_eqN (ha : EV X a σ B (dt X.K (eN i))) (hb : EV X b σ B (dt X.K (eN j))) : ET X (.Compare a [.Eq] [b] pos) σ B (decide (i = j)) := (et_eqI ha hb).is (decide_eq_decide.mpr (by omega))
theorem et_ltN (ha : EV X a σ B (dt X.K (eN i))) (hb : EV X b σ B (dt X.K (eN j))) : ET X (.Compare a [.Lt] [b] pos) σ B (decide (i < j)) := (et_lt ha hb).is (decide_eq_decide.mpr (by omega))
theorem et_leN (ha : EV X a σ B (dt X.K (eN i))) (hb : EV X b σ B (dt X.K (eN j))) : ET X (.Compare a [.LtE] [b] pos) σ B (decide (i ≤ j)) := (et_le ha hb).is (decide_eq_decide.mpr (by omega))
theorem et_gtN (ha : EV X a σ B (dt X.K (eN i))) (hb : EV X b σ B (dt X.K (eN j))) : ET X (.Compare a [.Gt] [b] pos) σ B (decide (j < i)) := (et_gt ha hb).is (decide_eq_decide.mpr (by omega))
theorem inj_eN {i j : Nat} (h : eN i = eN j) : i = j := by
  have : (i : Int) = j := by injection h
  omega
theorem ev_eqN (ha : EV X a σ B (dt X.K (eN i))) (hb : EV X b σ B (dt X.K (eN j))) (hu : X.A.units + 64 < cLine) : EV X (.Compare a [.Eq] [b] pos) σ B (dt X.K (.bool (decide (i = j)))) :=
  ev_eq (q := i = j) (n := 0) (m := 0) hu ha hb rfl rfl (by decide) (by decide) ⟨inj_eN, fun h => by rw [h]⟩
end
abbrev spFirsts (K : PySem.W.Frag) : Sp := spD (fun ds : List PyData => [dt K (.list ds)]) (fun ds => plainAll 20 ds = true ∧ ds.length ≤ 1000) (fun ds => dt K (eLN (firstsD ds)))
section
variable {P : Program} {w : World} {K : PySem.W.Frag} {mg : Str → Option Value} {base : Heap} {C g : Addr}
theorem scFirsts : FnScope ["marks", "mark"] ["marks"] (defScope (topS 11)) := ⟨rfl, rfl, rfl, by decide +kernel, rfl, by decide +kernel, by decide +kernel⟩
theorem ok_firsts (D : Gd K mg "firsts_of" (topS 11) []) : Gf P w K mg base 1 "firsts_of" (spFirsts K) :=
  D.pure scFirsts (fun _ => rfl) (fun _ _ _ _ _ _ us hl => match us, hl with | [_], _ => rfl) fun z vs B ds hp ha sb hr => by
    obtain ⟨v, rfl, h1⟩ := allM1 ha
    refine b_cons (s_retD (Nx.refl sb) (EV.is (ev_lcM (own := [("mark", 1)]) (g := fun d => eN (ds.findIdx fun z => PyData.eqv z d)) rfl scFirsts.nd (blkOk_by (N := ["marks", "mark"]) (sc := defScope (topS 11)) (by decide +kernel)) (sn_list (ev_var 0 rfl h1)) (by have := hp.2; omega) fun d hd B' s v' hv' =>
      ⟨[some v, some v'], rfl, fun z H' _ => tj_name 1 scFirsts.nd, fun z => ev_indexL hr.u65 (ev_var 0 rfl (dp_same s h1)) (ev_var 1 rfl hv') hd hp.1 (by decide)⟩) ?_))
    exact congrArg PyData.list (mapc _ _ _)
/-! ### blocks_of -/
def topsL (fs : List Nat) : List Nat := (fs.zipIdx.filter fun q => decide (q.1 = q.2)).map (·.2)
def blockAt (fs : List Nat) (p : Nat) : List Nat := (fs.zipIdx.filter fun q => decide (q.1 = p)).map (·.2)
def blocksL (fs : List Nat) : List (List Nat) := (topsL fs).map (blockAt fs)
abbrev eB (l : List (List Nat)) : PyData := .tuple (l.map eTN)
abbrev spBlocks (K : PySem.W.Frag) : Sp := spD (fun ds : List PyData => [dt K (.list ds)]) (fun ds => plainAll 20 ds = true ∧ ds.length ≤ 1000) (fun ds => dt K (eB (blocksL (firstsD ds))))
theorem firstsD_len (ds : List PyData) : (firstsD ds).length = ds.length := by simp [firstsD]
theorem tops_small (fs : List Nat) : (topsL fs).length ≤ fs.length := by
  unfold topsL
  rw [List.length_map]
  have := List.length_filter_le (fun q : Nat × Nat => decide (q.1 = q.2)) fs.zipIdx
  rwa [List.length_zipIdx] at this
abbrev sBl : List Str := ["marks", "firsts", "tops", "place", "first", "other"]
theorem scBlocks : FnScope sBl ["marks"] (defScope (topS 12)) := ⟨rfl, rfl, rfl, by decide +kernel, rfl, by decide +kernel, by decide +kernel⟩
theorem ok_blocks (L : Bl mg) (D : Gd K mg "blocks_of" (topS 12) []) (G1 : Gf P w K mg base 1 "firsts_of" (spFirsts K)) : Gf P w K mg base 2 "blocks_of" (spBlocks K) :=
  D.pure scBlocks (fun _ => rfl) (fun _ _ _ _ _ _ us hl => match us, hl with | [_], _ => rfl) fun z vs B ds hp ha sb hr => by
    obtain ⟨v, rfl, h1⟩ := allM1 ha
    have hz : (firstsD ds).zipIdx.length ≤ 100000 := by rw [List.length_zipIdx, firstsD_len]; have := hp.2; omega
    refine b_cons (s_set 1 scBlocks.nd sb (ev_call ds G1 hr (ea_cons (ev_var 0 rfl h1) ea_nil) hp) fun fv B1 H1 x1 p1 => ?_)
    have h1 := dp_same x1.b h1
    refine b_cons (s_lc (own := [("place", 3), ("first", 4)]) (i := 2) (f := fun q : Nat × Nat => decide (q.1 = q.2)) (g := fun q => eN q.2) rfl scBlocks.nd rfl rfl rfl (blkOk_by (N := sBl) (sc := defScope (topS 12)) (by decide +kernel)) (sn_encE (sn_enumL L.enum (ev_var 1 rfl p1))) hz
      (fun q hq B' s v' ⟨T, x, y, e, hT, hx, hy⟩ => ?_) x1.s fun tv B2 H2 x2 p2 => ?_)
    · subst e
      exact ⟨[some v, some fv, none, some x, some y, none], rfl, fun z H' s' => tj_pair 3 4 rfl scBlocks.nd (s' _ _ hT), fun z => ets_one (et_eqN (ev_var 4 rfl hy) (ev_var 3 rfl hx)), fun _ z => ev_var 3 rfl hx⟩
    have p1 := dp_same x2.b p1
    have e2 : PyData.list (((firstsD ds).zipIdx.filter fun q => decide (q.1 = q.2)).map fun q => eN q.2) = eLN (topsL (firstsD ds)) := congrArg PyData.list (mapc _ _ _)
    rw [e2] at p2
    refine b_cons (s_retD (x1.trans x2) (EV.is (ev_tupleL L.tuple (ev_lcM (own := [("place", 3)]) (g := fun p => eTN (blockAt (firstsD ds) p)) rfl scBlocks.nd (blkOk_by (N := sBl) (sc := defScope (topS 12)) (by decide +kernel)) (sn_enc (sn_list (ev_var 2 rfl p2))) (by have := tops_small (firstsD ds); rw [firstsD_len] at this; have := hp.2; omega)
      fun p hp B' s v' hv' => ⟨[some v, some fv, some tv, some v', none, none], rfl, fun z H' _ => tj_name 3 scBlocks.nd, fun z => EV.is (ev_tupleL L.tuple (ev_lc (own := [("other", 5), ("first", 4)]) (f := fun q : Nat × Nat => decide (q.1 = p)) (g := fun q => eN q.2) rfl scBlocks.nd (blkOk_by (by kernel_rfl)) (sn_encE (sn_enumL L.enum (ev_var 1 rfl (dp_same s p1)))) hz
        fun q hq B'' s2 v2 ⟨T, x, y, e, hT, hx, hy⟩ => ?_)) ?_⟩)) ?_))
    · subst e
      exact ⟨[some v, some fv, some tv, some v', some y, some x], rfl, fun z H' s' => tj_pair 5 4 rfl scBlocks.nd (s' _ _ hT), fun z => ets_one (et_eqN (ev_var 4 rfl hy) (ev_var 3 rfl (dp_same s2 hv'))), fun _ z => ev_var 5 rfl hx⟩
    · exact congrArg PyData.tuple (mapc _ _ _)
    · exact congrArg PyData.tuple (mapc _ _ _)

/-! ### marks_of -/
theorem plain_eN (n i : Nat) : plain n (eN i) = true := by cases n <;> rfl
theorem plain_eI (n : Nat) (i : Int) : plain n (eI i) = true := by cases n <;> rfl
theorem plainAll_map {α : Type} {n : Nat} {f : α → PyData} {l : List α} (h : ∀ a ∈ l, plain n (f a) = true) : plainAll n (l.map f) = true := plainAll_iff.mpr fun d hd => by
  obtain ⟨a, ha, rfl⟩ := List.mem_map.mp hd
  exact h a ha
theorem plain_eTN (n : Nat) (l : List Nat) : plain (n + 1) (eTN l) = true := plainAll_map (n := n) fun a _ => plain_eN n a
theorem plain_eLN (n : Nat) (l : List Nat) : plain (n + 1) (eLN l) = true := plainAll_map (n := n) fun a _ => plain_eN n a
theorem plain_eTI (n : Nat) (l : List Int) : plain (n + 1) (eTI l) = true := plainAll_map (n := n) fun a _ => plain_eI n a
theorem inj_eI {i j : Int} (h : eI i = eI j) : i = j := by injection h
theorem inj_eTN {l m : List Nat} (h : eTN l = eTN m) : l = m := by
  injection h with h
  exact (List.map_inj_right fun _ _ => inj_eN).mp h
theorem inj_eLN {l m : List Nat} (h : eLN l = eLN m) : l = m := by
  injection h with h
  exact (List.map_inj_right fun _ _ => inj_eN).mp h
theorem inj_eTI {l m : List Int} (h : eTI l = eTI m) : l = m := by
  injection h with h
  exact (List.map_inj_right fun _ _ => inj_eI).mp h
abbrev spMarks (K : PySem.W.Frag) : Sp := spD (fun M : Mac => [dt K (eN M.n), dt K (.list (M.nms.map fun x => eTN (M.mv x))), dt K (eTI M.sh)]) (fun M => M.Ok) (fun M => dt K (eLN (marks M)))
abbrev sMk : List Str := ["many", "moves", "shows", "marks", "more", "rows", "later", "state", "row"]
theorem scMarks : FnScope sMk ["many", "moves", "shows"] (defScope (topS 14)) := ⟨rfl, rfl, rfl, by decide +kernel, rfl, by decide +kernel, by decide +kernel⟩
theorem Mac.Ok.stp_lt {M : Mac} (h : M.Ok) {x : Str} (hx : x ∈ M.ks) {s : Nat} (hs : s < M.n) : stp M x s < M.n := by
  have e := h.ml x hx
  unfold stp
  rw [List.getD_eq_getElem?_getD, List.getElem?_eq_getElem (by omega)]
  exact h.mb x hx _ (List.getElem_mem ..)
theorem Mac.Ok.in_ks {M : Mac} (h : M.Ok) {x : Str} (hx : x ∈ M.nms) : x ∈ M.ks := h.pm.mem_iff.mp hx
theorem ok_marks (L : Bl mg) (D : Gd K mg "marks_of" (topS 14) []) (G1 : Gf P w K mg base 1 "firsts_of" (spFirsts K)) : Gf P w K mg base 2 "marks_of" (spMarks K) :=
  D.pure scMarks (fun _ => rfl) (fun _ _ _ _ _ _ us hl => match us, hl with | [_, _, _], _ => rfl) fun z vs B M hM ha sb hr => by
    obtain ⟨va, vb, vc, rfl, h1, h2, h3⟩ := allM3 ha
    have hsl := hM.sl
    have h5 := hM.n4
    have e0 : firstsD (M.sh.map eI) = iter M 0 := firstsD_enc (n := 20) (fun _ _ => inj_eI) M.sh (plainAll_map fun a _ => plain_eI _ a)
    refine b_cons (s_parT 3 4 rfl scMarks.nd sb (ea_cons (ev_call (M.sh.map eI) G1 hr (ea_cons (ev_listT L.list (ev_var 2 rfl h3)) ea_nil) ⟨plainAll_map fun a _ => plain_eI _ a, by rw [List.length_map]; omega⟩) (ea_cons ev_bl ea_nil)) fun mk fl B1 H1 x1 p1 p2 => ?_)
    have p2 := dp_b p2
    subst p2
    rw [e0] at p1
    refine b_cons (s_while PassesOwn.never (fun m σ B' H' => ∃ i fl mk o5 o6, σ = [some va, some vb, some vc, some mk, some (.bl fl), o5, o6, none, none] ∧ Nx B z.H B' H' ∧ Dp K B' mk (eLN (iter M i)) ∧ (fl = false → step M (iter M i) = iter M i) ∧ m = 2 * (M.n - (topsN M.n (iter M i)).length) + fl.toNat)
      _ x1.s ⟨0, true, mk, none, none, rfl, x1, p1, fun h => (by cases h), rfl⟩ fun m σ' B' H' s ⟨i, fl, mk, o5, o6, e, x', pm, hst, em⟩ => ?_)
    subst e
    have h1 := dp_same x'.b h1
    have h2 := dp_same x'.b h2
    have cn := canon_iter hsl i
    refine ⟨fl, et_val (ev_var 4 rfl (.bl fl)), fun efl B1 H1 x1 => ?_, fun efl B1 H1 x1 => ?_⟩
    · have h1 := dp_same x1.b h1
      have h2 := dp_same x1.b h2
      have pm := dp_same x1.b pm
      have pm0 : Dp K B1 mk (.list ((iter M i).map eN)) := pm
      have ln := cn.len
      refine b_cons (s_lcM (own := [("state", 7)]) (i := 5) (g := fun s => eTN ((iter M i).getD s 0 :: M.nms.map fun x => (iter M i).getD (stp M x s) 0)) rfl scMarks.nd rfl rfl rfl (blkOk_by (N := sMk) (sc := defScope (topS 14)) (by decide +kernel)) (sn_range L.range (ev_var 0 rfl h1) (by omega)) (by rw [List.length_range]; omega)
        (fun s hs B' sB v' hv' => ⟨[some va, some vb, some vc, some mk, some (.bl fl), o5, o6, some v', none], rfl, fun z H' _ => tj_name 7 scMarks.nd, fun z => ?_⟩) x1.s fun rv B2 H2 x2 p2 => ?_)
      · have hs := List.mem_range.mp hs
        refine EV.is (ev_tup (ds := eN ((iter M i).getD s 0) :: M.nms.map fun x => eN ((iter M i).getD (stp M x s) 0)) (EA.data (ea_cons (ev_ixL (ev_var 3 rfl (dp_same sB pm)) (ev_var 7 rfl hv') (at_map 0 (by omega))) (ea_starL (ev_lcM (own := [("row", 8)]) (g := fun x => eN ((iter M i).getD (stp M x s) 0)) rfl scMarks.nd (blkOk_by (by kernel_rfl)) (sn_enc (sn_list (ev_var 1 rfl (dp_same sB h2)))) ?_
          fun x hx B'' sB2 v2 hv2 => ⟨[some va, some vb, some vc, some mk, some (.bl fl), o5, o6, some v', some v2], rfl, fun z H' _ => tj_name 8 scMarks.nd, fun z => ?_⟩) ea_nil)) ?_) ?_) ?_
        · have := hM.pm.length_eq
          have := hM.k5
          omega
        · have hx := hM.in_ks hx
          have := hM.ml x hx
          have := hM.stp_lt hx hs
          exact ev_ixL (i := stp M x s) (ev_var 3 rfl (dp_same sB2 (dp_same sB pm))) (ev_ixT (ev_var 8 rfl hv2) (ev_var 7 rfl (dp_same sB2 hv')) (at_map 0 (by omega))) (at_map 0 (by omega))
        · simp
        · have := hM.pm.length_eq
          have := hM.k5
          simp
          omega
        · show PyData.tuple _ = PyData.tuple _
          simp [mapc]
      have e2 : PyData.list ((List.range M.n).map fun s => eTN ((iter M i).getD s 0 :: M.nms.map fun x => (iter M i).getD (stp M x s) 0)) = .list ((rowsOf M (iter M i)).map eTN) := congrArg PyData.list (mapc _ _ _)
      rw [e2] at p2
      refine b_cons (s_set 6 scMarks.nd x2.s (ev_call ((rowsOf M (iter M i)).map eTN) G1 hr (ea_cons (ev_var 5 rfl p2) ea_nil) ⟨plainAll_map fun a _ => plain_eTN 19 a, by rw [List.length_map, rows_len]; omega⟩) fun lv B3 H3 x3 p3 => ?_)
      have e3 : firstsD ((rowsOf M (iter M i)).map eTN) = iter M (i + 1) := firstsD_enc (n := 20) (fun _ _ => inj_eTN) _ (plainAll_map fun a _ => plain_eTN 19 a)
      have p3 : Dp K B3 lv (eLN (iter M (i + 1))) := e3 ▸ p3
      refine b_cons (s_set 4 scMarks.nd x3.s (ev_ne (q := iter M (i + 1) = iter M i) (n := 1) (m := 1) hr.u64 (ev_var 6 rfl p3) (ev_var 3 rfl (dp_same (x2.b.trans x3.b) pm)) (plain_eLN 0 _) (plain_eLN 0 _) (by decide) (by decide) ⟨inj_eLN, fun h => by rw [h]⟩) fun fv B4 H4 x4 p4 => ?_)
      have p4 := dp_b p4
      subst p4
      refine b_cons (s_set (P := dt K (eLN (iter M (i + 1)))) 3 scMarks.nd x4.s (ev_var 6 rfl (dp_same x4.b p3)) fun mv B5 H5 x5 p5 => b_nil ⟨_, B5, ?_, x5.s, i + 1, _, mv, some rv, some lv, rfl, x'.trans (x1.trans (x2.trans (x3.trans (x4.trans x5)))), p5, fun h => ?_, rfl⟩)
      · subst efl em
        by_cases e : iter M (i + 1) = iter M i
        · rw [e]
          simp
        · rcases iter_up hsl i with g | g
          · exact absurd g e
          · have := tops_len (n := M.n) (iter M (i + 1))
            simp [e]
            omega
      · have e : iter M (i + 1) = iter M i := by simpa using h
        rw [e]
        exact e
    · exact b_cons (s_retD (x'.trans x1) ((ev_var 3 rfl (dp_same x1.b pm)).is (by rw [iter_eq hsl (hst efl)])))
end
end K7
/-! The walks of machines.py and logs.py: check_states, checked, a machine's call, way, image, marked, behind, left_out. -/
namespace K7
open PySem PySem.Spec PyProof.Rows L2
/-! ### a def with one default, None -/
theorem Fo.imp {P : Program} {w : World} {K : PySem.W.Frag} {mg : Str → Option Value} {base : Heap} {k : Nat} {f : Addr} {sp sp' : Sp} (F : Fo P w K mg base k f sp) (h : ∀ vs H Q E, sp' vs H Q E → sp vs H Q E) : Fo P w K mg base k f sp' := by
  obtain ⟨fd, ps, dvs, ds, sp0, F, kp, hb, hv, imp⟩ := F.ex
  exact ⟨fd, ps, dvs, ds, sp0, F, kp, hb, hv, fun vs H Q E q => imp vs H Q E (h vs H Q E q)⟩
abbrev BindD (x qual : Str) (st : Stmt) (ps : List Str) (n j : Nat) : Prop :=
  ∀ (T : Addr) (kV doc pm : Value) (an : Option Addr) (cdv ct : Value) (us its : List Value), us.length = n → its.length = 1 →
    ∃ k, bindArgs (PySem.W.fnOf x qual (defArgs st) (defBody st) (defScope st) (.ref T) kV doc pm an cdv ct) ⟨us, []⟩ = seqItems? (.ref T) >>= k ∧ k (some its.toArray) = pure (ps.zip (us ++ its.drop j))
theorem mk_dflt {P : Program} {w : World} {K : PySem.W.Frag} {mg : Str → Option Value} {base : Heap} {x : Str} {st : Stmt} {N ps : List Str} {k n : Nat} {T : Type} {args : T → List Mp} {pre : T → Prop} {res : T → Mp} (D : Gd K mg x st [.non]) (S : FnScope N ps (defScope st)) (hl : ∀ t, (args t).length = ps.length)
    (hn : n + 1 = ps.length) (b1 : BindD x x st ps (n + 1) 1) (b0 : BindD x x st ps n 0)
    (body : ∀ (z : Fz) (vs : List V) (B : Hp) (t : T), pre t → AllM (args t) vs B → Same B z.H → Room k (fx P w K mg base N x st z).A → wB (fx P w K mg base N x st z) (defBody st) (Dn B z.H (res t)) (start N vs) z.H) :
    Gf P w K mg base (k + 1) x (spD args pre res) ∧ Gf P w K mg base (k + 1) x (fun vs H Q E => spD args pre res (vs ++ [.non]) H Q E) := by
  obtain ⟨f, ⟨fd, F⟩, g⟩ := D.ex
  have ok : FnOk P w K mg base CX0 (k + 1) f fd ps (spD args pre res) := F.ok S (fun vs H Q E h => by
    obtain ⟨t, B, _, ha, _⟩ := h
    rw [allM_len ha, hl t]) fun cdv A outer s H vs Q E hr h => by
      obtain ⟨t, B, sb, ha, hp, q⟩ := h
      exact ⟨_, PSs.nox pb_w, b_imp (body ⟨f, cdv, A, outer, s, H, E⟩ vs B t hp ha sb hr) (fun σ' H' ⟨B1, x, r⟩ => q _ _ _ x r) (fun v H' ⟨B1, x, r⟩ => q _ _ _ x r) (fun _ _ z => z.elim) fun _ _ z => z.elim⟩
  obtain ⟨d1, r1, e1⟩ := F.binds1 (ps := ps) (n + 1) 1 (by simp) (by simpa using hn) b1
  obtain ⟨d0, r0, e0⟩ := F.binds1 (ps := ps) n 0 (by simp) (by simpa using hn) b0
  exact ⟨⟨f, ⟨fd, ps, _, d1, _, ok, F.kp, e1, r1, fun vs H Q E h => by simpa using h⟩, g⟩, ⟨f, ⟨fd, ps, _, d0, _, ok, F.kp, e0, r0, fun vs H Q E h => h⟩, g⟩⟩
/-! ### promises -/
def opM (K : PySem.W.Frag) (st : Option (List Nat)) : Mp := ⟨fun v H => match st with | none => Dp K H v .none | some l => (seqM K (l.map eN)).p v H, fun {v H H'} s h => by
  cases st with
  | none => exact dp_same s h
  | some l => exact (seqM K (l.map eN)).mono s h⟩
abbrev stsOf (M : Mac) (st : Option (List Nat)) : List Nat := st.getD (every M)
def StOk (M : Mac) (st : Option (List Nat)) : Prop := ∀ l, st = some l → (∀ i ∈ l, i < M.n) ∧ l.length ≤ 10
abbrev spCkS (K : PySem.W.Frag) (C : Addr) : Sp := spD (fun t : Mac × List Nat => [machM K C t.1, seqM K (t.2.map eN)]) (fun t => ∀ i ∈ t.2, i < t.1.n) (fun _ => dt K .none)
abbrev spCkd (K : PySem.W.Frag) (C : Addr) : Sp := spD (fun t : Mac × Log => [machM K C t.1, dt K (eTS t.2)]) (fun t => t.1.Ok ∧ LogOk t.1 t.2) (fun t => dt K (eTS t.2))
abbrev spWay (K : PySem.W.Frag) (C : Addr) : Sp := spD (fun t : Mac × Nat × Log => [machM K C t.1, dt K (eN t.2.1), dt K (eTS t.2.2)]) (fun t => t.1.Ok ∧ t.2.1 < t.1.n ∧ LogOk t.1 t.2.2) (fun t => dt K (eW (way t.1 t.2.1 t.2.2)))
section
variable {P : Program} {w : World} {K : PySem.W.Frag} {mg : Str → Option Value} {base : Heap} {C g : Addr}
abbrev sCkS : List Str := ["machine", "states", "state"]
theorem scCkS : FnScope sCkS ["machine", "states"] (defScope (topS 17)) := ⟨rfl, rfl, rfl, by decide +kernel, rfl, by decide +kernel, by decide +kernel⟩
theorem ok_ckS (T : Mth P w K mg base C) (D : Gd K mg "check_states" (topS 17) []) : Gf P w K mg base 3 "check_states" (spCkS K C) :=
  D.pure scCkS (fun _ => rfl) (fun _ _ _ _ _ _ us hl => match us, hl with | [_, _], _ => rfl) fun z vs B ⟨M, l⟩ hp ha sb hr => by
    obtain ⟨va, vb, rfl, h1, h2⟩ := allM2 ha
    refine b_cons (s_for PassesOwn.never rfl (sn_enc (sn_var 1 rfl h2)) sb (fun _ σ' B' H' => (∃ o, σ' = [some va, some vb, o]) ∧ Nx B z.H B' H') (fun B1 H1 x1 => ⟨⟨none, rfl⟩, x1⟩)
      (fun i it σ' B' H' B2 H2 v hi ⟨⟨o, e⟩, x'⟩ x2 hv => ?_) fun σ' B' H' s1 s2 ⟨_, x'⟩ => b_nil ⟨B', x', .non⟩)
    subst e
    refine ⟨_, tj_name 2 scCkS.nd, ?_⟩
    have hit : it < M.n := hp it (List.mem_of_getElem? hi)
    have h1 := (machM K C M).mono (x'.b.trans x2.b) h1
    refine b_cons (s_skip x2.s (ET.is (et_not (et_range ev_int (ev_var 2 rfl hv) (ev_many T hr (ev_var 0 rfl h1)))) ?_) fun B3 H3 x3 => b_nil ⟨B3, x3.b, x3.s, ⟨_, rfl⟩, x'.trans (x2.trans x3)⟩)
    have e1 : decide ((0 : Int) ≤ (it : Nat)) = true := decide_eq_true (by omega)
    have e2 : decide (((it : Nat) : Int) < (M.n : Nat)) = true := decide_eq_true (by omega)
    rw [e1, e2]
    rfl
abbrev sCkd : List Str := ["machine", "log", "name"]
theorem scCkd : FnScope sCkd ["machine", "log"] (defScope (topS 18)) := ⟨rfl, rfl, rfl, by decide +kernel, rfl, by decide +kernel, by decide +kernel⟩
theorem ok_ckd (L : Bl mg) (T : Mth P w K mg base C) (D : Gd K mg "checked" (topS 18) []) : Gf P w K mg base 3 "checked" (spCkd K C) :=
  D.pure scCkd (fun _ => rfl) (fun _ _ _ _ _ _ us hl => match us, hl with | [_, _], _ => rfl) fun z vs B ⟨M, l⟩ hp ha sb hr => by
    obtain ⟨va, vb, rfl, h1, h2⟩ := allM2 ha
    obtain ⟨hM, hl⟩ : M.Ok ∧ LogOk M l := hp
    refine b_cons (s_for PassesOwn.never rfl (sn_enc (sn_tup (ev_var 1 rfl h2))) sb (fun _ σ' B' H' => (∃ o, σ' = [some va, some vb, o]) ∧ Nx B z.H B' H') (fun B1 H1 x1 => ⟨⟨none, rfl⟩, x1⟩)
      (fun i it σ' B' H' B2 H2 v hi ⟨⟨o, e⟩, x'⟩ x2 hv => ?_) fun σ' B' H' s1 s2 ⟨⟨o, e⟩, x'⟩ => ?_)
    · subst e
      refine ⟨_, tj_name 2 scCkd.nd, ?_⟩
      have h1 := (machM K C M).mono (x'.b.trans x2.b) h1
      refine b_cons (s_skip x2.s (ET.is (et_and (et_neS (ev_var 2 rfl hv) (ev_LOOK L)) fun _ => et_notIn (q := it ∈ M.nms) (ev_var 2 rfl hv) (ev_names T hr (ev_var 0 rfl h1)).ofT rfl (flat_eS _) mem_eS) ?_) fun B3 H3 x3 => b_nil ⟨B3, x3.b, x3.s, ⟨_, rfl⟩, x'.trans (x2.trans x3)⟩)
      rcases hl.mem it (List.mem_of_getElem? hi) with e | e
      · simp [e]
      · simp [hM.pm.mem_iff.mpr e]
    · subst e
      exact b_cons (s_retD x' (ev_tupleT L.tuple (ev_var 1 rfl (dp_same s1 h2))))
theorem drop_at {α : Type} {l : List α} {j : Nat} {x : α} (h : l[j]? = some x) : l.drop j = x :: l.drop (j + 1) := by
  obtain ⟨h1, h2⟩ := List.getElem?_eq_some_iff.mp h
  rw [List.drop_eq_getElem_cons h1, h2]
theorem way_at {M : Mac} {h j : Nat} {l : Log} {x : Str} (e : l[j]? = some x) : way M h (l.drop j) = if x = look then (M.sh.getD h 0 :: (way M h (l.drop (j + 1))).1, (way M h (l.drop (j + 1))).2) else way M (stp M x h) (l.drop (j + 1)) := by
  rw [drop_at e]
  rfl
theorem way_lt {M : Mac} (hM : M.Ok) : ∀ {l : Log} {h : Nat}, (∀ x ∈ l, x = look ∨ x ∈ M.ks) → h < M.n → (way M h l).2 < M.n
  | [], _, _, hh => hh
  | x :: l, h, hl, hh => by
    unfold way
    by_cases e : x = look
    · rw [if_pos e]
      exact way_lt hM (fun y hy => hl y (List.mem_cons_of_mem _ hy)) hh
    · rw [if_neg e]
      exact way_lt hM (fun y hy => hl y (List.mem_cons_of_mem _ hy)) (hM.stp_lt ((hl x (List.mem_cons_self ..)).resolve_left e) hh)
theorem Nx.off {B H B' H' : Hp} {p : Addr} {o : HO} (x : Nx B H B' H') (h : H p = some o) (hb : B p = none) : B' p = none := (x.o p (by rw [h]; exact fun z => by cases z)).trans hb
theorem same_no {B H : Hp} {p : Addr} (s : Same B H) (h : H p = none) : B p = none := by
  cases e : B p with
  | none => rfl
  | some o =>
    rw [s _ _ e] at h
    cases h
abbrev sGo : List Str := ["self", "state", "log", "here", "name"]
theorem scGo : FnScope sGo ["self", "state", "log"] (defScope (inClass cM 11)) := ⟨rfl, rfl, rfl, by decide +kernel, rfl, by decide +kernel, by decide +kernel⟩
theorem ok_go (L : Bl mg) (T : Mth P w K mg base C) (D : Fd K "__call__" "Machine.__call__" (inClass cM 11) [] g) (G1 : Gf P w K mg base 3 "check_states" (spCkS K C)) (G2 : Gf P w K mg base 3 "checked" (spCkd K C)) : Fo P w K mg base 4 g (spGo K C) :=
  mk_pure D scGo (fun _ => rfl) (fun _ _ _ _ _ _ us hl => match us, hl with | [_, _, _], _ => rfl) fun z vs B ⟨M, s0, l⟩ hp ha sb hr => by
    obtain ⟨va, vb, vc, rfl, h1, h2, h3⟩ := allM3 ha
    obtain ⟨hM, hs0, hl⟩ : M.Ok ∧ s0 < M.n ∧ LogOk M l := hp
    refine b_cons (s_expr sb (ev_call (M, [s0]) G1 hr (ea_cons (ev_var 0 rfl h1) (ea_cons (ev_tup (ds := [eN s0]) (ea_cons (ev_var 1 rfl h2) ea_nil) (show 1 ≤ 100000 by decide)).ofT ea_nil)) fun i hi => by rw [List.mem_singleton.mp hi]; exact hs0) fun _ B1 H1 x1 _ => ?_)
    refine b_cons (s_set (P := dt K (eN s0)) 3 scGo.nd x1.s (ev_var 1 rfl (dp_same x1.b h2)) fun v3 B2 H2 x2 p3 => ?_)
    have xx := x1.trans x2
    refine b_cons (s_for PassesOwn.never rfl (sn_enc (sn_tup (ev_call (M, l) G2 hr (ea_cons (ev_var 0 rfl ((machM K C M).mono xx.b h1)) (ea_cons (ev_var 2 rfl (dp_same xx.b h3)) ea_nil)) ⟨hM, hl⟩))) xx.s
      (fun j σ' B' H' => ∃ hv here o, σ' = [some va, some vb, some vc, some hv, o] ∧ Nx B z.H B' H' ∧ Dp K B' hv (eN here) ∧ here < M.n ∧ (way M s0 l).2 = (way M here (l.drop j)).2) (fun B1 H1 x3 => ⟨v3, s0, none, rfl, xx.trans x3, dp_same x3.b p3, hs0, by rw [List.drop_zero]⟩)
      (fun j it σ' B' H' B2 H2 v hi ⟨hv, here, o, e, x', ph, hlt, ew⟩ x2 hvv => ?_) fun σ' B' H' s1 s2 ⟨hv, here, o, e, x', ph, hlt, ew⟩ => ?_)
    · subst e
      refine ⟨_, tj_name 4 scGo.nd, ?_⟩
      have h1 := (machM K C M).mono (x'.b.trans x2.b) h1
      have ph := dp_same x2.b ph
      have hmem := hl.mem it (List.mem_of_getElem? hi)
      refine b_cons (s_set (P := dt K (eN (if it = look then here else stp M it here))) 3 scGo.nd x2.s (ev_ite (et_neS (ev_var 4 rfl hvv) (ev_LOOK L)) (fun hb => ?_) (fun hb => ?_)) fun v4 B3 H3 x3 p4 => b_nil ⟨B3, x3.b, x3.s, v4, _, some v, rfl, x'.trans (x2.trans x3), p4, ?_, ?_⟩)
      · have ne : it ≠ look := by simpa using hb
        have hx := hmem.resolve_left ne
        have := hM.ml it hx
        rw [if_neg ne]
        exact ev_ixT (ev_getMv hr.u1 (ev_fMoves T.T (ev_var 0 rfl h1)) (ev_var 4 rfl hvv) hx) (ev_var 3 rfl ph) (at_map 0 (by omega))
      · have e : it = look := by simpa using hb
        rw [if_pos e]
        exact ev_var 3 rfl ph
      · by_cases e : it = look
        · rwa [if_pos e]
        · rw [if_neg e]
          exact hM.stp_lt (hmem.resolve_left e) hlt
      · rw [ew, way_at hi]
        by_cases e : it = look
        · rw [if_pos e, if_pos e]
        · rw [if_neg e, if_neg e]
    · subst e
      refine b_cons (s_retD x' ((ev_var 3 rfl ph).is ?_))
      rw [ew, List.drop_length]
      rfl
abbrev sWay : List Str := ["machine", "state", "log", "here", "rows", "name"]
theorem scWay : FnScope sWay ["machine", "state", "log"] (defScope (topS 21)) := ⟨rfl, rfl, rfl, by decide +kernel, rfl, by decide +kernel, by decide +kernel⟩
theorem ok_way (L : Bl mg) (T : Mth P w K mg base C) (D : Gd K mg "way" (topS 21) []) : Gf P w K mg base 3 "way" (spWay K C) :=
  D.pure scWay (fun _ => rfl) (fun _ _ _ _ _ _ us hl => match us, hl with | [_, _, _], _ => rfl) fun z vs B ⟨M, s0, l⟩ hp ha sb hr => by
    obtain ⟨va, vb, vc, rfl, h1, h2, h3⟩ := allM3 ha
    obtain ⟨hM, hs0, hl⟩ : M.Ok ∧ s0 < M.n ∧ LogOk M l := hp
    refine b_cons (s_parNew (P1 := dt K (eN s0)) 3 4 rfl scWay.nd (by decide) sb (ev_var 1 rfl h2) fun v3 p B1 H1 x1 p3 np => ?_)
    have nz : z.H p = none := same_no x1.h np
    have nb : B1 p = none := same_no x1.s np
    have x0 := x1.hid (o := .lst []) nz nb
    refine b_cons (s_for PassesOwn.never rfl (sn_enc (sn_tup (ev_var 2 rfl (dp_same x0.b h3)))) x0.s
      (fun j σ' B' H' => ∃ hv here o acc seen, σ' = [some va, some vb, some vc, some hv, some (.ref p), o] ∧ Nx B z.H B' H' ∧ B' p = none ∧ H' p = some (.lst acc) ∧ DpAll K B' acc (seen.map eI) ∧ Dp K B' hv (eN here) ∧ here < M.n ∧ seen.length ≤ j ∧ way M s0 l = (seen ++ (way M here (l.drop j)).1, (way M here (l.drop j)).2))
      (fun B2 H2 x3 => ⟨v3, s0, none, [], [], rfl, x0.trans x3, x3.off upd_same nb, x3.h _ _ upd_same, .nil, dp_same x3.b p3, hs0, Nat.le_refl _, by rw [List.drop_zero]; rfl⟩)
      (fun j it σ' B' H' B2 H2 v hi ⟨hv, here, o, acc, seen, e, x', bp, hp, pa, ph, hlt, hz, ew⟩ x2 hvv => ?_) fun σ' B' H' s1 s2 ⟨hv, here, o, acc, seen, e, x', bp, hp, pa, ph, hlt, hz, ew⟩ => ?_)
    · subst e
      refine ⟨_, tj_name 5 scWay.nd, ?_⟩
      have h1 := (machM K C M).mono (x'.b.trans x2.b) h1
      have ph := dp_same x2.b ph
      have pa := dpa_same x2.b pa
      have bp := x2.off hp bp
      have hp := x2.h _ _ hp
      have hmem := hl.mem it (List.mem_of_getElem? hi)
      have hj : j < 200 := by
        have q : j < l.length := (List.getElem?_eq_some_iff.mp hi).1
        have := hl.len
        omega
      refine b_cons (s_if x2.s (et_eqS (ev_var 5 rfl hvv) (ev_LOOK L)) (fun hb B3 H3 x3 => ?_) (fun hb B3 H3 x3 => ?_))
      · have e : it = look := by simpa using hb
        have h1 := (machM K C M).mono x3.b h1
        refine b_cons (s_app 4 x3.s rfl (x3.h _ _ hp) (by rw [dpa_len pa, List.length_map]; omega) (ev_ixT (ev_shows T hr (ev_var 0 rfl h1)) (ev_var 3 rfl (dp_same x3.b ph)) (at_map 0 (by rw [hM.sl]; exact hlt))) fun u B4 H4 x4 p4 => ?_)
        have xe := x3.trans x4
        refine b_nil (b_nil ⟨B4, xe.b, (((x'.trans x2).trans xe).hid nz (xe.off hp bp)).s, hv, here, some v, acc ++ [u], seen ++ [M.sh.getD here 0], rfl, ((x'.trans x2).trans xe).hid nz (xe.off hp bp), xe.off hp bp, upd_same, ?_, dp_same xe.b ph, hlt, by rw [List.length_append]; exact Nat.succ_le_succ hz, ?_⟩)
        · rw [List.map_append]
          exact dpa_snoc (dpa_same xe.b pa) p4
        · rw [ew, way_at hi, if_pos e, List.append_assoc]
          rfl
      · have ne : it ≠ look := by simpa using hb
        have hx := hmem.resolve_left ne
        have h1 := (machM K C M).mono x3.b h1
        have := hM.ml it hx
        refine b_cons (s_set (P := dt K (eN (stp M it here))) 3 scWay.nd x3.s (ev_ixT (ev_get T hr hM (ev_var 0 rfl h1) (ev_var 5 rfl (dp_same x3.b hvv)) hx) (ev_var 3 rfl (dp_same x3.b ph)) (at_map 0 (by omega))) fun u B4 H4 x4 p4 => ?_)
        have xe := x3.trans x4
        refine b_nil (b_nil ⟨B4, xe.b, xe.s, u, _, some v, acc, seen, rfl, (x'.trans x2).trans xe, xe.off hp bp, xe.h _ _ hp, dpa_same xe.b pa, p4, hM.stp_lt hx hlt, by omega, ?_⟩)
        rw [ew, way_at hi, if_neg ne]
    · subst e
      have xs := x'.see nz bp hp
      have pl : Dp K (upd B' p (.lst acc)) (.ref p) (.list (seen.map eI)) := .lst (.inl (.inl upd_same)) (dpa_same (same_new bp) pa)
      refine b_cons (s_retD xs ((ev_tup (X := fx P w K mg base sWay "way" (topS 21) z) (ds := [eTI seen, eN here]) (ea_cons (ev_tupleL L.tuple (ev_var 4 rfl pl)) (ea_cons (ev_var 3 rfl (dp_same (same_new bp) ph)) ea_nil)) (show 2 ≤ 100000 by decide)).is ?_))
      rw [ew, List.drop_length]
      show _ = eW (seen ++ [], here)
      rw [List.append_nil]
end
end K7
/-! The walks of logs.py: image, marked, behind, left_out; check_deed, starts_of. -/
namespace K7
open PySem PySem.Spec PyProof.Rows L2
theorem ev_cal {X : Cx} {e : Expr} {es : List Expr} {σ : L2.St} {B : Hp} {p pos : Pos} {x : Str} {k : Nat} {T : Type} {args : T → List Mp} {pre : T → Prop} {res : T → Mp} {t : T} (G : Gf X.prog X.w X.K X.mg X.base k x (spD args pre res)) (hr : Room k X.A) (ha : EA X (e :: es) σ B (args t)) (hp : pre t) (hg : Gl X x := by rfl) (hdb : (x == ("__debug__" : Str)) = false := by decide)
    (he : starEach (e :: es) X.env = (false, eval e X.env) :: starEach es X.env := by rfl) (hpl : (backTo pos (starEach es X.env)).any (·.1) = false := by rfl) : EV X (.Call (.Name x p) (e :: es) [] pos) σ B (res t) := ev_call t G hr ha hp hg hdb he hpl
section
variable {X : Cx} {a b c e em es es2 : Expr} {σ : L2.St} {B : Hp} {pos p p1 p2 p3 p4 p5 p6 p7 p8 : Pos} {n : Nat} {C : Addr} {M : Mac} {st : Option (List Nat)}
theorem dpa_rg {K : PySem.W.Frag} {H : Hp} (n : Nat) : DpAll K H (rgV 0 n) ((List.range n).map eN) := by
  have e : rgV 0 n = ((List.range n).map fun i : Nat => (i : Int)).map V.int := by
    unfold rgV
    rw [List.map_map, show ((n : Int) - 0).toNat = n by omega]
    refine List.map_congr_left fun i _ => ?_
    show V.int (0 + (i : Int)) = V.int (i : Int)
    rw [Int.zero_add]
  have g := dpa_int (K := K) (H := H) ((List.range n).map fun i : Nat => (i : Int))
  have e3 : ((List.range n).map fun i : Nat => (i : Int)).map PyData.int = (List.range n).map eN := by rw [List.map_map]; rfl
  rw [e]
  rw [e3] at g
  exact g
theorem ev_listRg (hc : X.calm = true) (hm : X.mg "list" = none) (hm2 : X.mg "range" = none) (h : EV X e σ B (dt X.K (eN n))) (hn : n ≤ 100000) (hg : Gl X "list" := by rfl) (hg2 : Gl X "range" := by rfl) (na : starEach [e] X.env = (false, eval e X.env) :: starEach [] X.env := by rfl)
    (nb : starEach [.Call (.Name "range" p2) [e] [] p3] X.env = (false, eval (.Call (.Name "range" p2) [e] [] p3) X.env) :: starEach [] X.env := by rfl) : EV X (.Call (.Name "list" p1) [.Call (.Name "range" p2) [e] [] p3] [] p4) σ B (dt X.K (eLN (List.range n))) :=
  ev_of (pe_listRg hc hg hm (prg_1 hg2 hm2 pe_w na) nb) fun H s Q q => h H s _ fun v B1 H1 x1 pv => ⟨n, dp_i pv, ⟨by omega, by omega, by omega, by omega, by omega⟩, fun p hp => by
    have x2 := (Nx.refl x1.s).put (o := .lst (rgV 0 n)) hp
    exact q _ _ _ (x1.trans x2) (.lst (.inl (.inl upd_same)) (dpa_rg n))⟩
theorem ev_tupRg (hc : X.calm = true) (hm : X.mg "tuple" = none) (hm2 : X.mg "range" = none) (h : EV X e σ B (dt X.K (eN n))) (hn : n ≤ 100000) (hg : Gl X "tuple" := by rfl) (hg2 : Gl X "range" := by rfl) (na : starEach [e] X.env = (false, eval e X.env) :: starEach [] X.env := by rfl)
    (nb : starEach [.Call (.Name "range" p2) [e] [] p3] X.env = (false, eval (.Call (.Name "range" p2) [e] [] p3) X.env) :: starEach [] X.env := by rfl) : EV X (.Call (.Name "tuple" p1) [.Call (.Name "range" p2) [e] [] p3] [] p4) σ B (dt X.K (eTN (List.range n))) :=
  ev_of (pe_tupRg hc hg hm (prg_1 hg2 hm2 pe_w na) nb) fun H s Q q => h H s _ fun v B1 H1 x1 pv => ⟨n, dp_i pv, ⟨by omega, by omega, by omega, by omega, by omega⟩, fun p hp => by
    have x2 := (Nx.refl x1.s).put (o := .tup (rgV 0 n)) hp
    exact q _ _ _ (x1.trans x2) (.tup (.inl (.inl upd_same)) (dpa_rg n))⟩
/-- list(range(machine.many)) if states is None else list(states) -/
theorem ev_starts {k : Nat} (L : Bl X.mg) (T : Mth X.prog X.w X.K X.mg X.base C) (hr : Room 2 X.A) (hc : X.calm = true) (hM : M.Ok) (hm : EV X em σ B (machM X.K C M)) (hs : EV X es σ B (opM X.K st)) (hs2 : EV X es2 σ B (opM X.K st)) (hg : Gl X "list" := by rfl) (hg2 : Gl X "range" := by rfl) (na : starEach [es2] X.env = (false, eval es2 X.env) :: starEach [] X.env := by rfl)
    (nc : starEach [.Attribute em "many" p3] X.env = (false, eval (.Attribute em "many" p3) X.env) :: starEach [] X.env := by rfl) (hab : attributeBase em "many" X.env (eval em X.env) = eval em X.env := by rfl)
    (nb : starEach [.Call (.Name "range" p2) [.Attribute em "many" p3] [] p4] X.env = (false, eval (.Call (.Name "range" p2) [.Attribute em "many" p3] [] p4) X.env) :: starEach [] X.env := by rfl) :
    EV X (.IfExp (.Compare es [.Is] [.Constant .none k c1] c2) (.Call (.Name "list" p1) [.Call (.Name "range" p2) [.Attribute em "many" p3] [] p4] [] p5) (.Call (.Name "list" p6) [es2] [] p7) p8) σ B (dt X.K (eLN (stsOf M st))) := by
  have h4 := hM.n4
  cases st with
  | none =>
    refine ev_ite (k := true) ((et_isN (d := .none) hs).is rfl) (fun _ => ?_) fun h => by cases h
    exact ev_listRg hc L.list L.range (ev_many T hr hm hab) (by omega) hg hg2 nc nb
  | some l =>
    refine ev_ite (k := false) ?_ (fun h => by cases h) fun _ => ?_
    · exact et_cmp op_isN (nomark _) hs ev_non fun u v B1 _ px py => rv_now rfl fun H s Q q => by
        refine ⟨dp_n py, ?_⟩
        have e : decide (u = V.non) = false := by
          rcases px with px | px
          · rw [dp_isN px]; rfl
          · rw [dp_isN px]; rfl
        rw [e]
        exact q
    · exact ev_bty call_list_of L.list boot_list (ea_cons hs2 ea_nil na) (fun vs B1 _ h => by
        obtain ⟨v, rfl, g⟩ := allM1 h
        intro H s Q q
        rcases g with g | g
        · obtain ⟨a, xs, rfl, hl, hd⟩ := dp_l g
          refine ⟨a, xs, rfl, .inl (same_l s hl), fun p hp => ?_⟩
          have x1 := (Nx.refl s).put (o := .lst xs) hp
          exact q _ _ _ x1 (.lst (.inl (.inl upd_same)) (dpa_same x1.b hd))
        · obtain ⟨a, xs, rfl, hl, hd⟩ := dp_t g
          refine ⟨a, xs, rfl, .inr (same_t s hl), fun p hp => ?_⟩
          have x1 := (Nx.refl s).put (o := .lst xs) hp
          exact q _ _ _ x1 (.lst (.inl (.inl upd_same)) (dpa_same x1.b hd))) hg (by decide) (by decide) na rfl
end
theorem stsOf_lt {M : Mac} {st : Option (List Nat)} (h : StOk M st) : ∀ i ∈ stsOf M st, i < M.n := by
  cases st with
  | none => exact fun i hi => List.mem_range.mp hi
  | some l => exact (h l rfl).1
theorem stsOf_len {M : Mac} (hM : M.Ok) {st : Option (List Nat)} (h : StOk M st) : (stsOf M st).length ≤ 10 := by
  cases st with
  | none =>
    show (List.range M.n).length ≤ 10
    rw [List.length_range]
    have := hM.n4
    omega
  | some l => exact (h l rfl).2
abbrev spImg (K : PySem.W.Frag) (C : Addr) : Sp := spD (fun t : Mac × Log × Option (List Nat) => [machM K C t.1, dt K (eTS t.2.1), opM K t.2.2]) (fun t => t.1.Ok ∧ LogOk t.1 t.2.1 ∧ StOk t.1 t.2.2) (fun t => dt K (eTN (img t.1 t.2.1 (stsOf t.1 t.2.2))))
abbrev spImg2 (K : PySem.W.Frag) (C : Addr) : Sp := spD (fun t : Mac × Log => [machM K C t.1, dt K (eTS t.2)]) (fun t => t.1.Ok ∧ LogOk t.1 t.2) (fun t => dt K (eTN (img t.1 t.2 (every t.1))))
abbrev spMkd (K : PySem.W.Frag) (C : Addr) : Sp := spD (fun t : Mac × Log => [machM K C t.1, dt K (eTS t.2)]) (fun t => t.1.Ok ∧ LogOk t.1 t.2) (fun t => dt K (.list ((marked t.1 t.2).map eW)))
abbrev spBeh (K : PySem.W.Frag) (C : Addr) : Sp := spD (fun t : Mac × Log => [machM K C t.1, dt K (eTS t.2)]) (fun t => t.1.Ok ∧ LogOk t.1 t.2) (fun t => dt K (eB (blocksL (firsts (marked t.1 t.2)))))
abbrev spOut (K : PySem.W.Frag) : Sp := spD (fun t : Log × List Nat => [dt K (eTS t.1), dt K (eTN t.2)]) (fun t => t.1.length ≤ 200 ∧ ∀ p ∈ t.2, p < t.1.length ∧ t.1.getD p look ≠ look) (fun t => dt K (eTS (without t.1 t.2)))
abbrev spCkD (K : PySem.W.Frag) : Sp := spD (fun t : Log × Nat => [dt K (eTS t.1), dt K (eN t.2)]) (fun t => t.2 < t.1.length ∧ t.1.getD t.2 look ≠ look) (fun _ => dt K .none)
abbrev spSts (K : PySem.W.Frag) (C : Addr) : Sp := spD (fun t : Mac × Option (List Nat) => [machM K C t.1, opM K t.2]) (fun t => t.1.Ok ∧ StOk t.1 t.2) (fun t => dt K (eLN (stsOf t.1 t.2)))
theorem LogOk.take {M : Mac} {l : Log} (h : LogOk M l) (n : Nat) : LogOk M (l.take n) := ⟨fun x hx => h.mem x (List.mem_of_mem_take hx), by rw [List.length_take]; have := h.len; omega⟩
theorem LogOk.drop {M : Mac} {l : Log} (h : LogOk M l) (n : Nat) : LogOk M (l.drop n) := ⟨fun x hx => h.mem x (List.mem_of_mem_drop hx), by rw [List.length_drop]; have := h.len; omega⟩
theorem plain_eW (n : Nat) (r : List Int × Nat) : plain (n + 2) (eW r) = true := plainAll_iff.mpr fun d hd => by
  rcases List.mem_cons.mp hd with e | e
  · rw [e]
    exact plain_eTI n _
  · rw [List.mem_singleton.mp e]
    exact plain_eN _ _
theorem inj_eW {r q : List Int × Nat} (h : eW r = eW q) : r = q := by
  obtain ⟨a, b⟩ := r
  obtain ⟨c, d⟩ := q
  injection h with h
  injection h with h1 h2
  injection h2 with h2
  have e1 : a = c := inj_eTI h1
  have e2 : b = d := inj_eN h2
  rw [e1, e2]
theorem marked_at {M : Mac} {l : Log} {s : Nat} (h : s < M.n) : ((marked M l).map eW)[s]? = some (eW (markedAt M l s)) := by
  unfold marked
  rw [List.map_map, List.getElem?_map, List.getElem?_range h]
  rfl
section
variable {P : Program} {w : World} {K : PySem.W.Frag} {mg : Str → Option Value} {base : Heap} {C g : Addr}
abbrev sImg : List Str := ["machine", "log", "states", "own", "starts", "state"]
theorem scImg : FnScope sImg ["machine", "log", "states"] (defScope (topS 22)) := ⟨rfl, rfl, rfl, by decide +kernel, rfl, by decide +kernel, by decide +kernel⟩
theorem ok_img (L : Bl mg) (T : Mth P w K mg base C) (D : Gd K mg "image" (topS 22) [.non]) (G1 : Gf P w K mg base 3 "check_states" (spCkS K C)) (G2 : Gf P w K mg base 3 "checked" (spCkd K C)) (G3 : Gf P w K mg base 3 "way" (spWay K C)) :
    Gf P w K mg base 4 "image" (spImg K C) ∧ Gf P w K mg base 4 "image" (fun vs H Q E => spImg K C (vs ++ [.non]) H Q E) :=
  mk_dflt D scImg (fun _ => rfl) (n := 2) rfl (fun _ _ _ _ _ _ _ us its h1 h2 => match us, its, h1, h2 with | [_, _, _], [_], _, _ => ⟨_, rfl, rfl⟩) (fun _ _ _ _ _ _ _ us its h1 h2 => match us, its, h1, h2 with | [_, _], [_], _, _ => ⟨_, rfl, rfl⟩) fun z vs B ⟨M, l, st⟩ hp ha sb hr => by
    obtain ⟨va, vb, vc, rfl, h1, h2, h3⟩ := allM3 ha
    obtain ⟨hM, hl, hst⟩ : M.Ok ∧ LogOk M l ∧ StOk M st := hp
    have hlt := stsOf_lt hst
    have hln := stsOf_len hM hst
    refine b_cons (s_set 3 scImg.nd sb (ev_cal (t := (M, l)) G2 hr (ea_cons (ev_var 0 rfl h1) (ea_cons (ev_var 1 rfl h2) ea_nil)) ⟨hM, hl⟩) fun ow B1 H1 x1 p1 => ?_)
    have h1 := (machM K C M).mono x1.b h1
    have h3 := (opM K st).mono x1.b h3
    refine b_cons (s_set 4 scImg.nd x1.s (ev_starts L T (hr.mono (by decide)) rfl hM (ev_var 0 rfl h1) (ev_var 2 rfl h3) (ev_var 2 rfl h3)) fun sv B2 H2 x2 p2 => ?_)
    have h1 := (machM K C M).mono x2.b h1
    have p1 := dp_same x2.b p1
    refine b_cons (s_expr x2.s (ev_cal (t := (M, stsOf M st)) G1 hr (ea_cons (ev_var 0 rfl h1) (ea_cons (ev_var 4 rfl p2 : EV _ _ _ _ (dt K _)).ofL ea_nil)) hlt) fun _ B3 H3 x3 _ => ?_)
    have h1 := (machM K C M).mono x3.b h1
    have p1 := dp_same x3.b p1
    have p2 := dp_same x3.b p2
    refine b_cons (s_retD (x1.trans (x2.trans x3)) (ev_tupleL L.tuple (ev_sortedSet (l := (stsOf M st).map fun s => (way M s l).2) rfl L.sorted L.set (EV.is (ev_lcM (own := [("state", 5)]) (g := fun s => eN (way M s l).2) rfl scImg.nd (blkOk_by (N := sImg) (sc := defScope (topS 22)) (by decide +kernel)) (sn_enc (sn_list (ev_var 4 rfl p2))) (by omega)
      fun s hs B' sB v' hv' => ⟨[some va, some vb, some vc, some ow, some sv, some v'], rfl, fun z H' _ => tj_name 5 scImg.nd, fun zz => ?_⟩) ?_) (fun i hi => ?_) (by rw [List.length_map]; omega))))
    · refine ev_ixT (i := 1) (ds := [eTI (way M s l).1, eN (way M s l).2]) ?_ ev_int rfl
      exact ev_cal (X := bx (fx P w K mg base sImg "image" (topS 22) z) _ zz) (t := (M, s, l)) G3 hr (ea_cons (ev_var 0 rfl ((machM K C M).mono sB h1)) (ea_cons (ev_var 5 rfl hv') (ea_cons (ev_var 3 rfl (dp_same sB p1)) ea_nil))) ⟨hM, hlt s hs, hl⟩
    · exact congrArg PyData.list (mapc _ _ _)
    · obtain ⟨s, hs, rfl⟩ := List.mem_map.mp hi
      have := way_lt hM hl.mem (hlt s hs)
      have := hM.n4
      omega
theorem img2 (h : Gf P w K mg base 4 "image" (fun vs H Q E => spImg K C (vs ++ [.non]) H Q E)) : Gf P w K mg base 4 "image" (spImg2 K C) := by
  obtain ⟨f, F, g⟩ := h.ex
  refine ⟨f, F.imp fun vs H Q E ⟨⟨M, l⟩, B, sb, ha, hp, q⟩ => ?_, g⟩
  obtain ⟨va, vb, rfl, h1, h2⟩ := allM2 ha
  exact ⟨(M, l, none), B, sb, ⟨h1, h2, .non, True.intro⟩, ⟨hp.1, hp.2, fun _ h => (by cases h)⟩, q⟩
abbrev sMkd : List Str := ["machine", "log", "rows", "state", "seen", "end"]
theorem scMkd : FnScope sMkd ["machine", "log"] (defScope (topS 23)) := ⟨rfl, rfl, rfl, by decide +kernel, rfl, by decide +kernel, by decide +kernel⟩
theorem ok_mkd (L : Bl mg) (T : Mth P w K mg base C) (D : Gd K mg "marked" (topS 23) []) (G3 : Gf P w K mg base 3 "way" (spWay K C)) : Gf P w K mg base 4 "marked" (spMkd K C) :=
  D.pure scMkd (fun _ => rfl) (fun _ _ _ _ _ _ us hl => match us, hl with | [_, _], _ => rfl) fun z vs B ⟨M, l⟩ hp ha sb hr => by
    obtain ⟨va, vb, rfl, h1, h2⟩ : ∃ a b, vs = [a, b] ∧ (machM K C M).p a B ∧ Dp K B b (eTS l) := allM2 ha
    obtain ⟨hM, hl⟩ : M.Ok ∧ LogOk M l := hp
    have h4 := hM.n4
    refine b_cons (s_lcM (own := [("state", 3)]) (i := 2) (g := fun s => eW (way M s l)) rfl scMkd.nd rfl rfl rfl (blkOk_by (N := sMkd) (sc := defScope (topS 23)) (by decide +kernel)) (sn_range L.range (ev_many T (hr.mono (by decide)) (ev_var 0 rfl h1)) (by omega)) (by rw [List.length_range]; omega)
      (fun s hs B' sB v' hv' => ⟨[some va, some vb, none, some v', none, none], rfl, fun z H' _ => tj_name 3 scMkd.nd, fun z => ev_cal (X := bx _ _ z) (t := (M, s, l)) G3 hr (ea_cons (ev_var 0 rfl ((machM K C M).mono sB h1)) (ea_cons (ev_var 3 rfl hv') (ea_cons (ev_var 1 rfl (dp_same sB h2)) ea_nil))) ⟨hM, List.mem_range.mp hs, hl⟩⟩) sb fun rv B1 H1 x1 p1 => ?_)
    have h1 := (machM K C M).mono x1.b h1
    refine b_cons (s_retD x1 (EV.is (ev_lcM (own := [("seen", 4), ("end", 5)]) (g := fun s => eW (markedAt M l s)) rfl scMkd.nd (blkOk_by (N := sMkd) (sc := defScope (topS 23)) (by decide +kernel)) (sn_enc (enc := fun s => eW (way M s l)) (sn_list (ev_var 2 rfl p1))) (by rw [List.length_range]; omega)
      fun s hs B' sB v' hv' => ?_) ?_))
    · obtain ⟨t, a, b, rfl, hq, d1, d2⟩ := dp_t2 hv'
      have hs := List.mem_range.mp hs
      exact ⟨[some va, some vb, some rv, none, some a, some b], rfl, fun z H' s' => tj_two 4 5 rfl scMkd.nd (same_t s' hq), fun z => ev_tup (ds := [eTI (way M s l).1, eN ((marks M).getD (way M s l).2 0)]) (ea_cons (ev_var 4 rfl d1) (ea_cons (ev_mark T (by exact hr.mono (by decide)) (ev_var 0 rfl ((machM K C M).mono sB h1)) (ev_var 5 rfl d2) (by rw [marks_len hM.sl]; exact way_lt hM hl.mem hs)) ea_nil)) (show 2 ≤ 100000 by decide)⟩
    · exact congrArg PyData.list (mapc _ _ _)
theorem scBeh : FnScope ["machine", "log"] ["machine", "log"] (defScope (topS 24)) := ⟨rfl, rfl, rfl, by decide +kernel, rfl, by decide +kernel, by decide +kernel⟩
theorem ok_beh (L : Bl mg) (T : Mth P w K mg base C) (D : Gd K mg "behind" (topS 24) []) (G1 : Gf P w K mg base 2 "blocks_of" (spBlocks K)) (G2 : Gf P w K mg base 3 "checked" (spCkd K C)) (G3 : Gf P w K mg base 4 "marked" (spMkd K C)) : Gf P w K mg base 5 "behind" (spBeh K C) :=
  D.pure scBeh (fun _ => rfl) (fun _ _ _ _ _ _ us hl => match us, hl with | [_, _], _ => rfl) fun z vs B ⟨M, l⟩ hp ha sb hr => by
    obtain ⟨va, vb, rfl, h1, h2⟩ : ∃ a b, vs = [a, b] ∧ (machM K C M).p a B ∧ Dp K B b (eTS l) := allM2 ha
    obtain ⟨hM, hl⟩ : M.Ok ∧ LogOk M l := hp
    have h4 := hM.n4
    have hpl : plainAll 20 ((marked M l).map eW) = true := plainAll_map fun r _ => plain_eW 18 r
    refine b_cons (s_retD (Nx.refl sb) ((ev_cal (t := ((marked M l).map eW)) G1 (hr.mono (by decide)) (ea_cons (ev_cal (t := (M, l)) G3 hr (ea_cons (ev_var 0 rfl h1) (ea_cons (ev_cal (t := (M, l)) G2 (hr.mono (by decide)) (ea_cons (ev_var 0 rfl h1) (ea_cons (ev_var 1 rfl h2) ea_nil)) ⟨hM, hl⟩) ea_nil)) ⟨hM, hl⟩) ea_nil) ⟨hpl, ?_⟩).is ?_))
    · show eB (blocksL (firstsD ((marked M l).map eW))) = _
      rw [firstsD_enc (n := 20) (fun _ _ => inj_eW) _ hpl]
    · show ((marked M l).map eW).length ≤ 1000
      rw [List.length_map]
      unfold marked
      rw [List.length_map, List.length_range]
      omega
abbrev sOut : List Str := ["log", "places", "place", "name"]
theorem scOut : FnScope sOut ["log", "places"] (defScope (topS 25)) := ⟨rfl, rfl, rfl, by decide +kernel, rfl, by decide +kernel, by decide +kernel⟩
theorem ok_out (L : Bl mg) (D : Gd K mg "left_out" (topS 25) []) : Gf P w K mg base 1 "left_out" (spOut K) :=
  D.pure scOut (fun _ => rfl) (fun _ _ _ _ _ _ us hl => match us, hl with | [_, _], _ => rfl) fun z vs B ⟨l, ps⟩ hp ha sb hr => by
    obtain ⟨va, vb, rfl, h1, h2⟩ : ∃ a b, vs = [a, b] ∧ Dp K B a (eTS l) ∧ Dp K B b (eTN ps) := allM2 ha
    obtain ⟨h60, hps⟩ : l.length ≤ 200 ∧ ∀ p ∈ ps, p < l.length ∧ l.getD p look ≠ look := hp
    refine b_cons (s_for PassesOwn.never rfl (sn_enc (sn_tup (ev_var 1 rfl h2))) sb (fun _ σ' B' H' => (∃ o, σ' = [some va, some vb, o, none]) ∧ Nx B z.H B' H') (fun B1 H1 x1 => ⟨⟨none, rfl⟩, x1⟩)
      (fun i it σ' B' H' B2 H2 v hi ⟨⟨o, e⟩, x'⟩ x2 hv => ?_) fun σ' B' H' s1 s2 ⟨⟨o, e⟩, x'⟩ => ?_)
    · subst e
      refine ⟨_, tj_name 2 scOut.nd, ?_⟩
      have hit := (hps it (List.mem_of_getElem? hi)).1
      have h1 := dp_same (x'.b.trans x2.b) h1
      refine b_cons (s_skip x2.s (ET.is (et_not (et_range ev_int (ev_var 2 rfl hv) (ev_lenT L.len (ev_var 0 rfl h1)))) ?_) fun B3 H3 x3 => b_nil ⟨B3, x3.b, x3.s, ⟨_, rfl⟩, x'.trans (x2.trans x3)⟩)
      rw [List.length_map]
      have e1 : decide ((0 : Int) ≤ (it : Nat)) = true := decide_eq_true (by omega)
      have e2 : decide (((it : Nat) : Int) < (l.length : Nat)) = true := decide_eq_true (by omega)
      rw [e1, e2]
      rfl
    · subst e
      refine b_cons (s_for PassesOwn.never rfl (sn_enc (sn_tup (ev_var 1 rfl (dp_same s1 h2)))) x'.s (fun _ σ' B' H' => (∃ o, σ' = [some va, some vb, o, none]) ∧ Nx B z.H B' H') (fun B1 H1 x1 => ⟨⟨o, rfl⟩, x'.trans x1⟩)
        (fun i it σ' B' H' B2 H2 v hi ⟨⟨o, e⟩, x'⟩ x2 hv => ?_) fun σ' B' H' s3 s4 ⟨⟨o, e⟩, x'⟩ => ?_)
      · subst e
        refine ⟨_, tj_name 2 scOut.nd, ?_⟩
        obtain ⟨hit, hne⟩ := hps it (List.mem_of_getElem? hi)
        have h1 := dp_same (x'.b.trans x2.b) h1
        exact b_cons (s_skip x2.s (ET.is (et_eqS (ev_ixT (ev_var 0 rfl h1) (ev_var 2 rfl hv) (at_map look hit)) (ev_LOOK L)) (decide_eq_false hne)) fun B3 H3 x3 => b_nil ⟨B3, x3.b, x3.s, ⟨_, rfl⟩, x'.trans (x2.trans x3)⟩)
      · subst e
        have h1 := dp_same (s1.trans s3) h1
        have h2 := dp_same (s1.trans s3) h2
        refine b_cons (s_retD x' (EV.is (ev_tupleL L.tuple (ev_lc (own := [("place", 2), ("name", 3)]) (f := fun q : Str × Nat => !decide (q.2 ∈ ps)) (g := fun q => eS q.1) rfl scOut.nd (blkOk_by (N := sOut) (sc := defScope (topS 25)) (by decide +kernel)) (sn_encE (sn_enumT L.enum (ev_var 0 rfl h1))) (by rw [List.length_zipIdx]; omega)
          fun q hq B' s v' ⟨t, x, y, e, hT, hx, hy⟩ => ?_)) ?_))
        · subst e
          exact ⟨[some va, some vb, some x, some y], rfl, fun z H' s' => tj_pair 2 3 rfl scOut.nd (s' _ _ hT), fun z => ets_one (et_notIn (q := q.2 ∈ ps) (ev_var 2 rfl hx) (ev_var 1 rfl (dp_same s h2) : EV _ _ _ _ (dt K _)).ofT rfl (flat_eN _) mem_eN), fun _ z => ev_var 3 rfl hy⟩
        · exact congrArg PyData.tuple (mapc _ _ _)
theorem scCkD : FnScope ["log", "place"] ["log", "place"] (defScope (topS 28)) := ⟨rfl, rfl, rfl, by decide +kernel, rfl, by decide +kernel, by decide +kernel⟩
theorem ok_ckD (L : Bl mg) (D : Gd K mg "check_deed" (topS 28) []) : Gf P w K mg base 1 "check_deed" (spCkD K) :=
  D.pure scCkD (fun _ => rfl) (fun _ _ _ _ _ _ us hl => match us, hl with | [_, _], _ => rfl) fun z vs B ⟨l, k⟩ hp ha sb hr => by
    obtain ⟨va, vb, rfl, h1, h2⟩ := allM2 ha
    obtain ⟨hk, hne⟩ : k < l.length ∧ l.getD k look ≠ look := hp
    refine b_cons (s_skip sb (ET.is (et_not (et_range ev_int (ev_var 1 rfl h2) (ev_lenT L.len (ev_var 0 rfl h1)))) ?_) fun B1 H1 x1 => ?_)
    · rw [List.length_map]
      have e1 : decide ((0 : Int) ≤ (k : Nat)) = true := decide_eq_true (by omega)
      have e2 : decide (((k : Nat) : Int) < (l.length : Nat)) = true := decide_eq_true (by omega)
      rw [e1, e2]
      rfl
    · exact b_cons (s_skip x1.s (ET.is (et_eqS (ev_ixT (ev_var 0 rfl (dp_same x1.b h1)) (ev_var 1 rfl (dp_same x1.b h2)) (at_map look hk)) (ev_LOOK L)) (decide_eq_false hne)) fun B2 H2 x2 => b_nil ⟨B2, x1.trans x2, .non⟩)
theorem scSts : FnScope ["machine", "states", "found"] ["machine", "states"] (defScope (topS 29)) := ⟨rfl, rfl, rfl, by decide +kernel, rfl, by decide +kernel, by decide +kernel⟩
theorem ok_sts (L : Bl mg) (T : Mth P w K mg base C) (D : Gd K mg "starts_of" (topS 29) []) (G1 : Gf P w K mg base 3 "check_states" (spCkS K C)) : Gf P w K mg base 4 "starts_of" (spSts K C) :=
  D.pure scSts (fun _ => rfl) (fun _ _ _ _ _ _ us hl => match us, hl with | [_, _], _ => rfl) fun z vs B ⟨M, st⟩ hp ha sb hr => by
    obtain ⟨va, vb, rfl, h1, h2⟩ := allM2 ha
    obtain ⟨hM, hst⟩ : M.Ok ∧ StOk M st := hp
    refine b_cons (s_set 2 scSts.nd sb (ev_starts L T (hr.mono (by decide)) rfl hM (ev_var 0 rfl h1) (ev_var 1 rfl h2) (ev_var 1 rfl h2)) fun sv B2 H2 x2 p2 => ?_)
    refine b_cons (s_expr x2.s (ev_cal (t := (M, stsOf M st)) G1 hr (ea_cons (ev_var 0 rfl ((machM K C M).mono x2.b h1)) (ea_cons (ev_var 2 rfl p2 : EV _ _ _ _ (dt K _)).ofL ea_nil)) (stsOf_lt hst)) fun _ B3 H3 x3 _ => ?_)
    exact b_cons (s_retD (x2.trans x3) (ev_var 2 rfl (dp_same x3.b p2)))
end
end K7
/-! The walks of both.py: may_go, goers, stays_for, can_all_go, is_firm, firm. -/
namespace K7
open PySem PySem.Spec PyProof.Rows L2
section
variable {X : Cx} {a b c e : Expr} {σ : L2.St} {B : Hp} {pos p : Pos} {i j : Nat}
theorem ev_addN (ha : EV X a σ B (dt X.K (eN i))) (hb : EV X b σ B (dt X.K (eN j))) : EV X (.BinOp a .Add b pos) σ B (dt X.K (eN (i + j))) := (ev_add ha hb).is (congrArg PyData.int (by omega))
theorem ev_intN {k q : Nat} : EV X (.Constant (.int (k : Nat)) q pos) σ B (dt X.K (eN k)) := ev_int
end
theorem cut_map {α β : Type} (f : α → β) (l : List α) (i j : Option Nat) : cutD (l.map f) i j = (cutD l i j).map f := by
  unfold cutD
  rw [List.length_map, List.map_drop, List.map_take]
theorem cut_lo {α : Type} (l : List α) (i : Nat) : cutD l (some i) none = l.drop i := by
  unfold cutD
  simp
theorem cut_hi {α : Type} (l : List α) (i : Nat) : cutD l none (some i) = l.take i := by
  unfold cutD
  simp
abbrev spMay (K : PySem.W.Frag) (C : Addr) : Sp := spD (fun t : Mac × Log × Nat × List Nat => [machM K C t.1, dt K (eTS t.2.1), dt K (eN t.2.2.1), dt K (eLN t.2.2.2)])
  (fun t => t.1.Ok ∧ LogOk t.1 t.2.1 ∧ (t.2.2.1 < t.2.1.length ∧ t.2.1.getD t.2.2.1 look ≠ look) ∧ (∀ i ∈ t.2.2.2, i < t.1.n) ∧ t.2.2.2.length ≤ 10) (fun t => dt K (.bool (mayGo t.1 t.2.1 t.2.2.1 t.2.2.2)))
abbrev spGrs (K : PySem.W.Frag) (C : Addr) : Sp := spD (fun t : Mac × Log × Option (List Nat) => [machM K C t.1, dt K (eTS t.2.1), opM K t.2.2]) (fun t => t.1.Ok ∧ LogOk t.1 t.2.1 ∧ StOk t.1 t.2.2) (fun t => dt K (eTN (goers t.1 t.2.1 (stsOf t.1 t.2.2))))
abbrev spGrs2 (K : PySem.W.Frag) (C : Addr) : Sp := spD (fun t : Mac × Log => [machM K C t.1, dt K (eTS t.2)]) (fun t => t.1.Ok ∧ LogOk t.1 t.2) (fun t => dt K (eTN (goers t.1 t.2 (every t.1))))
def LogOk.at {M : Mac} {l : Log} (h : LogOk M l) {k : Nat} (hk : k < l.length) : l.getD k look = look ∨ l.getD k look ∈ M.ks := by
  refine h.mem _ ?_
  rw [List.getD_eq_getElem?_getD, List.getElem?_eq_getElem hk]
  exact List.getElem_mem ..
theorem zip_range {l : Log} : l.zipIdx = (List.range l.length).map fun k => (l.getD k look, k) := by
  refine List.ext_getElem (by simp) fun i h1 h2 => ?_
  have h3 : i < l.length := by simpa using h1
  simp [h3]
theorem goers_zip {M : Mac} {l : Log} {st : List Nat} : (l.zipIdx.filter fun q => (!decide (q.1 = look)) && mayGo M l q.2 st).map (·.2) = goers M l st := by
  rw [zip_range, List.filter_map, List.map_map]
  unfold goers
  have : ((fun x : Str × Nat => x.2) ∘ fun k => (l.getD k look, k)) = id := rfl
  rw [this, List.map_id]
  rfl
theorem goers_mem {M : Mac} {l : Log} {st : List Nat} {k : Nat} : k ∈ goers M l st ↔ k < l.length ∧ l.getD k look ≠ look ∧ mayGo M l k st = true := by
  unfold goers
  rw [List.mem_filter, List.mem_range, Bool.and_eq_true]
  simp
theorem img_lt {M : Mac} (hM : M.Ok) {l : Log} (hl : LogOk M l) {st : List Nat} (hst : ∀ i ∈ st, i < M.n) {s : Nat} (h : s ∈ img M l st) : s < M.n := by
  unfold img at h
  have hb : ∀ i ∈ st.map fun s => (way M s l).2, i < M.n := fun i hi => by
    obtain ⟨u, hu, rfl⟩ := List.mem_map.mp hi
    exact way_lt hM hl.mem (hst u hu)
  have h4 := hM.n4
  rw [mem_isort fun i hi => by have := hb i hi; omega] at h
  exact hb s h
section
variable {P : Program} {w : World} {K : PySem.W.Frag} {mg : Str → Option Value} {base : Heap} {C g : Addr}
abbrev sMay : List Str := ["machine", "log", "place", "starts", "marks", "moves", "state"]
theorem scMay : FnScope sMay ["machine", "log", "place", "starts"] (defScope (topS 30)) := ⟨rfl, rfl, rfl, by decide +kernel, rfl, by decide +kernel, by decide +kernel⟩
theorem ok_may (L : Bl mg) (T : Mth P w K mg base C) (D : Gd K mg "may_go" (topS 30) []) (G1 : Gf P w K mg base 4 "image" (spImg K C)) (G2 : Gf P w K mg base 4 "marked" (spMkd K C)) : Gf P w K mg base 5 "may_go" (spMay K C) :=
  D.pure scMay (fun _ => rfl) (fun _ _ _ _ _ _ us hl => match us, hl with | [_, _, _, _], _ => rfl) fun z vs B ⟨M, l, k, st⟩ hp ha sb hr => by
    obtain ⟨va, vb, vc, vd, rfl, h1, h2, h3, h4⟩ : ∃ a b c d, vs = [a, b, c, d] ∧ (machM K C M).p a B ∧ Dp K B b (eTS l) ∧ Dp K B c (eN k) ∧ Dp K B d (eLN st) := allM4 ha
    obtain ⟨hM, hl, ⟨hk, hne⟩, hst, hln⟩ : M.Ok ∧ LogOk M l ∧ (k < l.length ∧ l.getD k look ≠ look) ∧ (∀ i ∈ st, i < M.n) ∧ st.length ≤ 10 := hp
    have hx := (hl.at hk).resolve_left hne
    have hml := hM.ml _ hx
    have e1 : ∀ {a : Expr} {pos p2 : Pos} {σ : L2.St}, EV (fx P w K mg base sMay "may_go" (topS 30) z) a σ B (dt K (eN (k + 1))) → EV (fx P w K mg base sMay "may_go" (topS 30) z) (.Subscript (.Name "log" pos) (.Slice (some a) none none p2) p2) σ B (dt K (eTS (l.drop (k + 1)))) → True := fun _ _ => True.intro
    refine b_cons (s_parT (d1 := .list ((marked M (l.drop (k + 1))).map eW)) (d2 := eTN (M.mv (l.getD k look))) 4 5 rfl scMay.nd sb (ea_cons (ev_cal (X := fx P w K mg base sMay "may_go" (topS 30) z) (t := (M, l.drop (k + 1))) G2 hr (ea_cons (ev_var 0 rfl h1) (ea_cons (EV.is (ev_slT (ev_var 1 rfl h2) (eo_yes (k := k + 1) (ev_addN (ev_var 2 rfl h3) ev_int)) eo_no) ?_) ea_nil)) ⟨hM, hl.drop _⟩)
      (ea_cons (ev_get T (hr.mono (by decide)) hM (ev_var 0 rfl h1) (ev_ixT (ev_var 1 rfl h2) (ev_var 2 rfl h3) (at_map look hk)) hx) ea_nil)) fun mk mo B1 H1 x1 p1 p2 => ?_)
    · exact congrArg PyData.tuple ((cut_map eS l _ _).trans (by rw [cut_lo]))
    have h1 := (machM K C M).mono x1.b h1
    have h2 := dp_same x1.b h2
    have h3 := dp_same x1.b h3
    have h4 := dp_same x1.b h4
    refine b_cons (s_retD x1 (EV.is (ev_all (bs := (img M (l.take k) st).map fun s => decide (markedAt M (l.drop (k + 1)) (stp M (l.getD k look) s) = markedAt M (l.drop (k + 1)) s)) rfl L.all (EV.is (ev_lcM (own := [("state", 6)]) (g := fun s => .bool (decide (markedAt M (l.drop (k + 1)) (stp M (l.getD k look) s) = markedAt M (l.drop (k + 1)) s))) rfl scMay.nd (blkOk_by (N := sMay) (sc := defScope (topS 30)) (by decide +kernel))
      (sn_enc (sn_tup (ev_cal (X := fx P w K mg base sMay "may_go" (topS 30) z) (t := (M, l.take k, some st)) G1 hr (ea_cons (ev_var 0 rfl h1) (ea_cons (EV.is (ev_slT (ev_var 1 rfl h2) eo_no (eo_yes (k := k) (ev_var 2 rfl h3))) ?_) (ea_cons (ev_var 3 rfl (.inl h4)) ea_nil))) ⟨hM, hl.take _, fun l' e => by cases e; exact ⟨hst, hln⟩⟩))) ?_
      fun s hs B' sB v' hv' => ⟨[some va, some vb, some vc, some vd, some mk, some mo, some v'], rfl, fun z H' _ => tj_name 6 scMay.nd, fun zz => ?_⟩) ?_)) ?_))
    · exact congrArg PyData.tuple ((cut_map eS l _ _).trans (by rw [cut_hi]))
    · show (img M (l.take k) st).length ≤ 100000
      have := List.length_filter_le (fun i => decide (i ∈ st.map fun s => (way M s (l.take k)).2)) (List.range 10)
      rw [List.length_range] at this
      exact Nat.le_trans this (by decide)
    · have hs : s < M.n := img_lt hM (hl.take k) hst hs
      have hs2 := hM.stp_lt hx hs
      have p1 := dp_same sB p1
      have p2 := dp_same sB p2
      exact ev_eq (n := 2) (m := 2) hr.u64 (ev_ixL (i := stp M (l.getD k look) s) (ev_var 4 rfl p1) (ev_ixT (i := s) (ev_var 5 rfl p2) (ev_var 6 rfl hv') (at_map 0 (by omega))) (marked_at hs2)) (ev_ixL (i := s) (ev_var 4 rfl p1) (ev_var 6 rfl hv') (marked_at hs)) (plain_eW 0 _) (plain_eW 0 _) (by decide) (by decide) ⟨inj_eW, fun h => by rw [h]⟩
    · exact congrArg PyData.list (mapc _ _ _)
    · show PyData.bool _ = .bool (mayGo M l k st)
      unfold mayGo
      rw [List.all_map]
      rfl
abbrev sGrs : List Str := ["machine", "log", "states", "own", "starts", "place", "name"]
theorem scGrs : FnScope sGrs ["machine", "log", "states"] (defScope (topS 31)) := ⟨rfl, rfl, rfl, by decide +kernel, rfl, by decide +kernel, by decide +kernel⟩
theorem ok_grs (L : Bl mg) (T : Mth P w K mg base C) (D : Gd K mg "goers" (topS 31) [.non]) (G1 : Gf P w K mg base 3 "checked" (spCkd K C)) (G2 : Gf P w K mg base 4 "starts_of" (spSts K C)) (G3 : Gf P w K mg base 5 "may_go" (spMay K C)) :
    Gf P w K mg base 6 "goers" (spGrs K C) ∧ Gf P w K mg base 6 "goers" (fun vs H Q E => spGrs K C (vs ++ [.non]) H Q E) :=
  mk_dflt D scGrs (fun _ => rfl) (n := 2) rfl (fun _ _ _ _ _ _ _ us its h1 h2 => match us, its, h1, h2 with | [_, _, _], [_], _, _ => ⟨_, rfl, rfl⟩) (fun _ _ _ _ _ _ _ us its h1 h2 => match us, its, h1, h2 with | [_, _], [_], _, _ => ⟨_, rfl, rfl⟩) fun z vs B ⟨M, l, st⟩ hp ha sb hr => by
    obtain ⟨va, vb, vc, rfl, h1, h2, h3⟩ : ∃ a b c, vs = [a, b, c] ∧ (machM K C M).p a B ∧ Dp K B b (eTS l) ∧ (opM K st).p c B := allM3 ha
    obtain ⟨hM, hl, hst⟩ : M.Ok ∧ LogOk M l ∧ StOk M st := hp
    have hlt := stsOf_lt hst
    have hln := stsOf_len hM hst
    refine b_cons (s_set (P := dt K (eTS l)) 3 scGrs.nd sb (ev_cal (t := (M, l)) G1 (hr.mono (by decide)) (ea_cons (ev_var 0 rfl h1) (ea_cons (ev_var 1 rfl h2) ea_nil)) ⟨hM, hl⟩) fun ow B1 H1 x1 p1 => ?_)
    have h1 := (machM K C M).mono x1.b h1
    have h3 := (opM K st).mono x1.b h3
    refine b_cons (s_set (P := dt K (eLN (stsOf M st))) 4 scGrs.nd x1.s (ev_cal (t := (M, st)) G2 (hr.mono (by decide)) (ea_cons (ev_var 0 rfl h1) (ea_cons (ev_var 2 rfl h3) ea_nil)) ⟨hM, hst⟩) fun sv B2 H2 x2 p2 => ?_)
    have h1 := (machM K C M).mono x2.b h1
    have p1 : Dp K B2 ow (eTS l) := dp_same x2.b p1
    have p2 : Dp K B2 sv (eLN (stsOf M st)) := p2
    have h60 := hl.len
    refine b_cons (s_retD (x1.trans x2) (EV.is (ev_tupleL L.tuple (ev_lc (own := [("place", 5), ("name", 6)]) (f := fun q : Str × Nat => (!decide (q.1 = look)) && mayGo M l q.2 (stsOf M st)) (g := fun q => eN q.2) rfl scGrs.nd (blkOk_by (N := sGrs) (sc := defScope (topS 31)) (by decide +kernel)) (sn_encE (sn_enumT L.enum (ev_var 3 rfl p1))) (by rw [List.length_zipIdx]; omega)
      fun q hq B' s v' ⟨t, x, y, e, hT, hx, hy⟩ => ?_)) ?_))
    · subst e
      have hq2 : l[q.2]? = some q.1 := by
        obtain ⟨k, hk⟩ := List.getElem?_of_mem hq
        rw [List.getElem?_zipIdx] at hk
        cases e2 : l[k]? with
        | none =>
          rw [e2] at hk
          cases hk
        | some u =>
          rw [e2] at hk
          have hk : (u, 0 + k) = q := by injection hk
          subst hk
          simpa using e2
      have hq3 : q.2 < l.length := (List.getElem?_eq_some_iff.mp hq2).1
      have hq4 : l.getD q.2 look = q.1 := by rw [List.getD_eq_getElem?_getD, hq2]; rfl
      exact ⟨[some va, some vb, some vc, some ow, some sv, some x, some y], rfl, fun zz H' s' => tj_pair 5 6 rfl scGrs.nd (s' _ _ hT), fun zz => ets_one (et_and (et_neS (ev_var 6 rfl hy) (ev_LOOK L)) fun hb => et_val (ev_cal (X := bx (fx P w K mg base sGrs "goers" (topS 31) z) _ zz) (t := (M, l, q.2, stsOf M st)) G3 hr
        (ea_cons (ev_var 0 rfl ((machM K C M).mono s h1)) (ea_cons (ev_var 3 rfl (dp_same s p1)) (ea_cons (ev_var 5 rfl hx) (ea_cons (ev_var 4 rfl (dp_same s p2)) ea_nil)))) ⟨hM, hl, ⟨hq3, by rw [hq4]; simpa using hb⟩, hlt, hln⟩)), fun _ zz => ev_var 5 rfl hx⟩
    · exact congrArg PyData.tuple ((mapc (fun q : Str × Nat => q.2) eN _).trans (congrArg (List.map eN) goers_zip))
theorem grs2 (h : Gf P w K mg base 6 "goers" (fun vs H Q E => spGrs K C (vs ++ [.non]) H Q E)) : Gf P w K mg base 6 "goers" (spGrs2 K C) := by
  obtain ⟨f, F, g⟩ := h.ex
  refine ⟨f, F.imp fun vs H Q E ⟨⟨M, l⟩, B, sb, ha, hp, q⟩ => ?_, g⟩
  obtain ⟨va, vb, rfl, h1, h2⟩ := allM2 ha
  exact ⟨(M, l, none), B, sb, ⟨h1, h2, .non, True.intro⟩, ⟨hp.1, hp.2, fun _ h => (by cases h)⟩, q⟩
end
end K7
/-! The walks of both.py: stays_for, can_all_go, is_firm, firm. -/
namespace K7
open PySem PySem.Spec PyProof.Rows L2
theorem without_mem {l : Log} {ps : List Nat} {x : Str} (h : x ∈ without l ps) : x ∈ l := by
  unfold without at h
  obtain ⟨q, hq, rfl⟩ := List.mem_map.mp h
  have := (List.mem_filter.mp hq).1
  obtain ⟨a, b⟩ := q
  exact List.fst_mem_of_mem_zipIdx this
theorem without_len {l : Log} {ps : List Nat} : (without l ps).length ≤ l.length := by
  unfold without
  rw [List.length_map]
  have := List.length_filter_le (fun q : Str × Nat => !decide (q.2 ∈ ps)) l.zipIdx
  rwa [List.length_zipIdx] at this
theorem LogOk.without {M : Mac} {l : Log} (h : LogOk M l) (ps : List Nat) : LogOk M (without l ps) := ⟨fun x hx => h.mem x (without_mem hx), Nat.le_trans without_len h.len⟩
theorem without_lt {l : Log} {p : Nat} (h : p < l.length) : (without l [p]).length < l.length := by
  unfold without
  rw [zip_range, List.filter_map, List.length_map, List.length_map]
  have : ((List.range l.length).filter ((fun q : Str × Nat => !decide (q.2 ∈ [p])) ∘ fun k => (l.getD k look, k))).length < (List.range l.length).length := by
    refine Nat.lt_of_le_of_ne (List.length_filter_le ..) fun e => ?_
    have := List.filter_eq_self.mp (List.filter_sublist.eq_of_length e) p (List.mem_range.mpr h)
    simp at this
  rwa [List.length_range] at this
def stayD : List Nat → PyData
  | [] => .none
  | k :: _ => eN k
abbrev spStay (K : PySem.W.Frag) (C : Addr) : Sp := spD (fun t : Mac × Log × Nat => [machM K C t.1, dt K (eTS t.2.1), dt K (eN t.2.2)]) (fun t => t.1.Ok ∧ LogOk t.1 t.2.1 ∧ (t.2.2 < t.2.1.length ∧ t.2.1.getD t.2.2 look ≠ look)) (fun t => dt K (stayD (stays t.1 t.2.1 t.2.2 (every t.1))))
abbrev spStay4 (K : PySem.W.Frag) (C : Addr) : Sp := spD (fun t : Mac × Log × Nat => [machM K C t.1, dt K (eTS t.2.1), dt K (eN t.2.2), dt K .none]) (fun t => t.1.Ok ∧ LogOk t.1 t.2.1 ∧ (t.2.2 < t.2.1.length ∧ t.2.1.getD t.2.2 look ≠ look)) (fun t => dt K (stayD (stays t.1 t.2.1 t.2.2 (every t.1))))
def PlOk (l : Log) (ps : List Nat) : Prop := ∀ p ∈ ps, p < l.length ∧ l.getD p look ≠ look
abbrev spCan (K : PySem.W.Frag) (C : Addr) : Sp := spD (fun t : Mac × Log × List Nat => [machM K C t.1, dt K (eTS t.2.1), dt K (eTN t.2.2)]) (fun t => t.1.Ok ∧ LogOk t.1 t.2.1 ∧ PlOk t.2.1 t.2.2) (fun t => dt K (.bool (canAll t.1 t.2.1 t.2.2 (every t.1))))
abbrev spCan4 (K : PySem.W.Frag) (C : Addr) : Sp := spD (fun t : Mac × Log × List Nat => [machM K C t.1, dt K (eTS t.2.1), dt K (eTN t.2.2), dt K .none]) (fun t => t.1.Ok ∧ LogOk t.1 t.2.1 ∧ PlOk t.2.1 t.2.2) (fun t => dt K (.bool (canAll t.1 t.2.1 t.2.2 (every t.1))))
abbrev spIsF (K : PySem.W.Frag) (C : Addr) : Sp := spD (fun t : Mac × Log => [machM K C t.1, dt K (eTS t.2)]) (fun t => t.1.Ok ∧ LogOk t.1 t.2) (fun t => dt K (.bool (decide (goers t.1 t.2 (every t.1) = []))))
/-- one by one, the first that can go -/
def firmN (M : Mac) : Nat → Log → Log
  | 0, l => l
  | k + 1, l => match goers M l (every M) with
    | [] => l
    | p :: _ => firmN M k (without l [p])
def firm (M : Mac) (l : Log) : Log := firmN M l.length l
theorem firmN_enough {M : Mac} : ∀ {k j : Nat} {l : Log}, l.length ≤ k → l.length ≤ j → firmN M k l = firmN M j l
  | 0, 0, _, _, _ => rfl
  | 0, j + 1, l, h, g => by
    have e : l = [] := List.eq_nil_of_length_eq_zero (by omega)
    subst e
    rfl
  | k + 1, 0, l, h, g => by
    have e : l = [] := List.eq_nil_of_length_eq_zero (by omega)
    subst e
    rfl
  | k + 1, j + 1, l, h, g => by
    unfold firmN
    cases e : goers M l (every M) with
    | nil => rfl
    | cons p ps =>
      have hp : p ∈ goers M l (every M) := by rw [e]; exact List.mem_cons_self ..
      have := without_lt (goers_mem.mp hp).1
      exact firmN_enough (by omega) (by omega)
theorem firm_stop {M : Mac} {l : Log} (h : goers M l (every M) = []) : firm M l = l := by
  unfold firm
  cases e : l.length with
  | zero => rfl
  | succ k =>
    unfold firmN
    rw [h]
theorem firm_go {M : Mac} {l : Log} {p : Nat} {ps : List Nat} (h : goers M l (every M) = p :: ps) : firm M l = firm M (without l [p]) := by
  have hp : p ∈ goers M l (every M) := by rw [h]; exact List.mem_cons_self ..
  have hlt := (goers_mem.mp hp).1
  have := without_lt hlt
  unfold firm
  cases e : l.length with
  | zero => omega
  | succ k =>
    rw [firmN, h]
    exact firmN_enough (by omega) (Nat.le_refl _)
abbrev spFirm (K : PySem.W.Frag) (C : Addr) : Sp := spD (fun t : Mac × Log => [machM K C t.1, dt K (eTS t.2)]) (fun t => t.1.Ok ∧ LogOk t.1 t.2) (fun t => dt K (eTS (firm t.1 t.2)))
section
variable {X : Cx} {e : Expr} {σ : L2.St} {B : Hp} {pos p : Pos}
/-- min of a list that ascends -/
theorem et_posL {ds : List PyData} {q : Nat} {p2 p3 : Pos} (hm : X.mg "len" = none) (ha : EV X e σ B (dt X.K (.list ds))) (hg : Gl X "len" := by rfl) (he : starEach [e] X.env = (false, eval e X.env) :: starEach [] X.env := by rfl) :
    ET X (.Compare (.Call (.Name "len" p) [e] [] p2) [.Gt] [.Constant (.int 0) q p3] pos) σ B (decide (0 < ds.length)) := et_gtN (i := ds.length) (j := 0) (ev_lenL hm ha hg he) ev_int
theorem et_posT {ds : List PyData} {q : Nat} {p2 p3 : Pos} (hm : X.mg "len" = none) (ha : EV X e σ B (dt X.K (.tuple ds))) (hg : Gl X "len" := by rfl) (he : starEach [e] X.env = (false, eval e X.env) :: starEach [] X.env := by rfl) :
    ET X (.Compare (.Call (.Name "len" p) [e] [] p2) [.Gt] [.Constant (.int 0) q p3] pos) σ B (decide (0 < ds.length)) := et_gtN (i := ds.length) (j := 0) (ev_lenT hm ha hg he) ev_int
theorem ev_minAsc {k : Nat} {l : List Nat} (hc : X.calm = true) (hm : X.mg "min" = none) (h : EV X e σ B (dt X.K (eLN (k :: l)))) (hs : (k :: l).Pairwise (· < ·)) (hg : Gl X "min" := by rfl) (he : starEach [e] X.env = (false, eval e X.env) :: starEach [] X.env := by rfl) : EV X (.Call (.Name "min" p) [e] [] pos) σ B (dt X.K (eN k)) :=
  ev_blt (cr_min hc) hm (by decide +kernel) (ea_cons h ea_nil he) (fun vs B1 _ g0 => by
    obtain ⟨v, rfl, g⟩ := allM1 g0
    obtain ⟨a, xs, rfl, hl, hd⟩ := dp_l g
    have ex := vals_dtI hd
    refine rc_now (z := .int (k : Nat)) (.int _) fun H s Q q => ⟨a, (k :: l).map fun i : Nat => (i : Int), rfl, ex ▸ same_l s hl, by simp, fun m hm1 hm2 => ?_⟩
    obtain ⟨i, hi, rfl⟩ := List.mem_map.mp hm1
    have h1 := hm2 (k : Nat) (List.mem_map.mpr ⟨k, List.mem_cons_self .., rfl⟩)
    have e : i = k := by
      rcases List.mem_cons.mp hi with e | hi
      · exact e
      · have := (List.pairwise_cons.mp hs).1 i hi
        omega
    rw [e]
    exact q) hg (by decide) (by decide) he rfl
end
section
variable {P : Program} {w : World} {K : PySem.W.Frag} {mg : Str → Option Value} {base : Heap} {C g : Addr}
abbrev sSty : List Str := ["machine", "log", "place", "states", "own", "starts", "mine", "its", "found", "state"]
theorem scSty : FnScope sSty ["machine", "log", "place", "states"] (defScope (topS 32)) := ⟨rfl, rfl, rfl, by decide +kernel, rfl, by decide +kernel, by decide +kernel⟩
theorem ok_sty (L : Bl mg) (T : Mth P w K mg base C) (D : Gd K mg "stays_for" (topS 32) [.non]) (G1 : Gf P w K mg base 3 "checked" (spCkd K C)) (G2 : Gf P w K mg base 4 "starts_of" (spSts K C)) (G3 : Gf P w K mg base 1 "check_deed" (spCkD K)) (G4 : Gf P w K mg base 4 "marked" (spMkd K C)) (G5 : Gf P w K mg base 1 "left_out" (spOut K)) :
    Gf P w K mg base 5 "stays_for" (spStay4 K C) ∧ Gf P w K mg base 5 "stays_for" (fun vs H Q E => spStay4 K C (vs ++ [.non]) H Q E) :=
  mk_dflt D scSty (fun _ => rfl) (n := 3) rfl (fun _ _ _ _ _ _ _ us its h1 h2 => match us, its, h1, h2 with | [_, _, _, _], [_], _, _ => ⟨_, rfl, rfl⟩) (fun _ _ _ _ _ _ _ us its h1 h2 => match us, its, h1, h2 with | [_, _, _], [_], _, _ => ⟨_, rfl, rfl⟩) fun z vs B ⟨M, l, k⟩ hp ha sb hr => by
    obtain ⟨va, vb, vc, vd, rfl, h1, h2, h3, h4⟩ : ∃ a b c d, vs = [a, b, c, d] ∧ (machM K C M).p a B ∧ Dp K B b (eTS l) ∧ Dp K B c (eN k) ∧ Dp K B d .none := allM4 ha
    obtain ⟨hM, hl, hk, hne⟩ : M.Ok ∧ LogOk M l ∧ (k < l.length ∧ l.getD k look ≠ look) := hp
    have h4n := hM.n4
    refine b_cons (s_set (P := dt K (eTS l)) 4 scSty.nd sb (ev_cal (t := (M, l)) G1 (hr.mono (by decide)) (ea_cons (ev_var 0 rfl h1) (ea_cons (ev_var 1 rfl h2) ea_nil)) ⟨hM, hl⟩) fun ow B1 H1 x1 p1 => ?_)
    have h1 := (machM K C M).mono x1.b h1
    have h3 := dp_same x1.b h3
    have h4 := dp_same x1.b h4
    refine b_cons (s_expr x1.s (ev_cal (t := (l, k)) G3 (hr.mono (by decide)) (ea_cons (ev_var 4 rfl p1) (ea_cons (ev_var 2 rfl h3) ea_nil)) ⟨hk, hne⟩) fun _ B2 H2 x2 _ => ?_)
    have h1 := (machM K C M).mono x2.b h1
    have h3 := dp_same x2.b h3
    have h4 := dp_same x2.b h4
    have p1 := dp_same x2.b p1
    refine b_cons (s_set (P := dt K (eLN (every M))) 5 scSty.nd x2.s (ev_cal (t := (M, none)) G2 (hr.mono (by decide)) (ea_cons (ev_var 0 rfl h1) (ea_cons (ev_var 3 rfl h4) ea_nil)) ⟨hM, fun _ h => by cases h⟩) fun sv B3 H3 x3 p3 => ?_)
    have h1 := (machM K C M).mono x3.b h1
    have h3 := dp_same x3.b h3
    have p1 := dp_same x3.b p1
    have h60 := hl.len
    refine b_cons (s_parT (d1 := .list ((marked M l).map eW)) (d2 := .list ((marked M (without l [k])).map eW)) 6 7 rfl scSty.nd x3.s (ea_cons (ev_cal (X := fx P w K mg base sSty "stays_for" (topS 32) z) (t := (M, l)) G4 (hr.mono (by decide)) (ea_cons (ev_var 0 rfl h1) (ea_cons (ev_var 4 rfl p1) ea_nil)) ⟨hM, hl⟩)
      (ea_cons (ev_cal (X := fx P w K mg base sSty "stays_for" (topS 32) z) (t := (M, without l [k])) G4 (hr.mono (by decide)) (ea_cons (ev_var 0 rfl h1) (ea_cons (ev_cal (X := fx P w K mg base sSty "stays_for" (topS 32) z) (t := (l, [k])) G5 (hr.mono (by decide)) (ea_cons (ev_var 4 rfl p1) (ea_cons (ev_tup (ds := [eN k]) (ea_cons (ev_var 2 rfl h3) ea_nil) (show 1 ≤ 100000 by decide)) ea_nil))
        ⟨h60, fun p hp => by rw [List.mem_singleton.mp hp]; exact ⟨hk, hne⟩⟩) ea_nil)) ⟨hM, hl.without _⟩) ea_nil)) fun mv iv B4 H4 x4 p4 q4 => ?_)
    have p3 : Dp K B4 sv (eLN (every M)) := dp_same x4.b p3
    have x04 := x1.trans (x2.trans (x3.trans x4))
    refine b_cons (s_lc (own := [("state", 9)]) (i := 8) (f := fun s : Nat => !decide (markedAt M l s = markedAt M (without l [k]) s)) (g := fun s => eN s) rfl scSty.nd rfl rfl rfl (blkOk_by (N := sSty) (sc := defScope (topS 32)) (by decide +kernel)) (sn_enc (sn_list (ev_var 5 rfl p3))) (by unfold every; rw [List.length_range]; omega)
      (fun s hs B' sB v' hv' => ⟨[some va, some vb, some vc, some vd, some ow, some sv, some mv, some iv, none, some v'], rfl, fun zz H' _ => tj_name 9 scSty.nd, fun zz => ets_one (et_ne (n := 2) (m := 2) hr.u64 (ev_ixL (i := s) (ev_var 6 rfl (dp_same sB p4)) (ev_var 9 rfl hv') (marked_at (List.mem_range.mp hs))) (ev_ixL (i := s) (ev_var 7 rfl (dp_same sB q4)) (ev_var 9 rfl hv') (marked_at (List.mem_range.mp hs))) (plain_eW 0 _) (plain_eW 0 _) (by decide) (by decide) ⟨inj_eW, fun h => by rw [h]⟩), fun _ zz => ev_var 9 rfl hv'⟩)
      x4.s fun fv B5 H5 x5 p5 => ?_)
    have p5 : Dp K B5 fv (eLN (stays M l k (every M))) := p5
    refine b_cons (s_retD (x04.trans x5) (ev_ite (k := decide (0 < (stays M l k (every M)).length)) (ET.is (et_posL (X := fx P w K mg base sSty "stays_for" (topS 32) z) L.len (ev_var 8 rfl p5)) (by rw [List.length_map])) (fun hb => ?_) fun hb => ?_))
    · have hb : 0 < (stays M l k (every M)).length := by simpa using hb
      cases e : stays M l k (every M) with
      | nil =>
        rw [e] at hb
        cases hb
      | cons a r =>
        have pw : (stays M l k (every M)).Pairwise (· < ·) := List.Pairwise.filter _ (List.pairwise_lt_range ..)
        rw [e] at pw p5
        exact ev_minAsc rfl L.min (ev_var 8 rfl p5) pw
    · have e : stays M l k (every M) = [] := List.eq_nil_of_length_eq_zero (by
        have : ¬ 0 < (stays M l k (every M)).length := by simpa using hb
        omega)
      show EV _ _ _ _ (dt K (stayD (stays M l k (every M))))
      rw [e]
      exact ev_non
theorem sty3 (h : Gf P w K mg base 5 "stays_for" (fun vs H Q E => spStay4 K C (vs ++ [.non]) H Q E)) : Gf P w K mg base 5 "stays_for" (spStay K C) := by
  obtain ⟨f, F, g⟩ := h.ex
  refine ⟨f, F.imp fun vs H Q E ⟨t, B, sb, ha, hp, q⟩ => ?_, g⟩
  obtain ⟨va, vb, vc, rfl, h1, h2, h3⟩ := allM3 ha
  exact ⟨t, B, sb, ⟨h1, h2, h3, .non, True.intro⟩, hp, q⟩
abbrev sCan : List Str := ["machine", "log", "places", "states", "own", "rest", "mine", "its", "state"]
theorem scCan : FnScope sCan ["machine", "log", "places", "states"] (defScope (topS 33)) := ⟨rfl, rfl, rfl, by decide +kernel, rfl, by decide +kernel, by decide +kernel⟩
theorem ok_can (L : Bl mg) (T : Mth P w K mg base C) (D : Gd K mg "can_all_go" (topS 33) [.non]) (G1 : Gf P w K mg base 3 "checked" (spCkd K C)) (G2 : Gf P w K mg base 4 "starts_of" (spSts K C)) (G4 : Gf P w K mg base 4 "marked" (spMkd K C)) (G5 : Gf P w K mg base 1 "left_out" (spOut K)) :
    Gf P w K mg base 5 "can_all_go" (spCan4 K C) ∧ Gf P w K mg base 5 "can_all_go" (fun vs H Q E => spCan4 K C (vs ++ [.non]) H Q E) :=
  mk_dflt D scCan (fun _ => rfl) (n := 3) rfl (fun _ _ _ _ _ _ _ us its h1 h2 => match us, its, h1, h2 with | [_, _, _, _], [_], _, _ => ⟨_, rfl, rfl⟩) (fun _ _ _ _ _ _ _ us its h1 h2 => match us, its, h1, h2 with | [_, _, _], [_], _, _ => ⟨_, rfl, rfl⟩) fun z vs B ⟨M, l, ps⟩ hp ha sb hr => by
    obtain ⟨va, vb, vc, vd, rfl, h1, h2, h3, h4⟩ : ∃ a b c d, vs = [a, b, c, d] ∧ (machM K C M).p a B ∧ Dp K B b (eTS l) ∧ Dp K B c (eTN ps) ∧ Dp K B d .none := allM4 ha
    obtain ⟨hM, hl, hps⟩ : M.Ok ∧ LogOk M l ∧ PlOk l ps := hp
    have h4n := hM.n4
    refine b_cons (s_set (P := dt K (eTS l)) 4 scCan.nd sb (ev_cal (t := (M, l)) G1 (hr.mono (by decide)) (ea_cons (ev_var 0 rfl h1) (ea_cons (ev_var 1 rfl h2) ea_nil)) ⟨hM, hl⟩) fun ow B1 H1 x1 p1 => ?_)
    have h1 := (machM K C M).mono x1.b h1
    have h3 := dp_same x1.b h3
    have h4 := dp_same x1.b h4
    refine b_cons (s_set (P := dt K (eTS (without l ps))) 5 scCan.nd x1.s (ev_cal (t := (l, ps)) G5 (hr.mono (by decide)) (ea_cons (ev_var 4 rfl p1) (ea_cons (ev_var 2 rfl h3) ea_nil)) ⟨hl.len, hps⟩) fun rv B2 H2 x2 p2 => ?_)
    have h1 := (machM K C M).mono x2.b h1
    have h4 := dp_same x2.b h4
    have p1 := dp_same x2.b p1
    refine b_cons (s_parT (d1 := .list ((marked M l).map eW)) (d2 := .list ((marked M (without l ps)).map eW)) 6 7 rfl scCan.nd x2.s (ea_cons (ev_cal (X := fx P w K mg base sCan "can_all_go" (topS 33) z) (t := (M, l)) G4 (hr.mono (by decide)) (ea_cons (ev_var 0 rfl h1) (ea_cons (ev_var 4 rfl p1) ea_nil)) ⟨hM, hl⟩)
      (ea_cons (ev_cal (X := fx P w K mg base sCan "can_all_go" (topS 33) z) (t := (M, without l ps)) G4 (hr.mono (by decide)) (ea_cons (ev_var 0 rfl h1) (ea_cons (ev_var 5 rfl p2) ea_nil)) ⟨hM, hl.without _⟩) ea_nil)) fun mv iv B4 H4 x4 p4 q4 => ?_)
    have h1 := (machM K C M).mono x4.b h1
    have h4 := dp_same x4.b h4
    refine b_cons (s_retD (x1.trans (x2.trans x4)) (EV.is (ev_all (bs := (every M).map fun s => decide (markedAt M l s = markedAt M (without l ps) s)) rfl L.all (EV.is (ev_lcM (own := [("state", 8)]) (g := fun s => .bool (decide (markedAt M l s = markedAt M (without l ps) s))) rfl scCan.nd (blkOk_by (N := sCan) (sc := defScope (topS 33)) (by decide +kernel))
      (sn_enc (l := every M) (sn_list (ev_cal (X := fx P w K mg base sCan "can_all_go" (topS 33) z) (t := (M, none)) G2 (hr.mono (by decide)) (ea_cons (ev_var 0 rfl h1) (ea_cons (ev_var 3 rfl h4) ea_nil)) ⟨hM, fun _ h => by cases h⟩))) (by unfold every; rw [List.length_range]; omega)
      fun s hs B' sB v' hv' => ⟨[some va, some vb, some vc, some vd, some ow, some rv, some mv, some iv, some v'], rfl, fun zz H' _ => tj_name 8 scCan.nd, fun zz => ev_eq (n := 2) (m := 2) hr.u64 (ev_ixL (i := s) (ev_var 6 rfl (dp_same sB p4)) (ev_var 8 rfl hv') (marked_at (List.mem_range.mp hs))) (ev_ixL (i := s) (ev_var 7 rfl (dp_same sB q4)) (ev_var 8 rfl hv') (marked_at (List.mem_range.mp hs))) (plain_eW 0 _) (plain_eW 0 _) (by decide) (by decide) ⟨inj_eW, fun h => by rw [h]⟩⟩) ?_)) ?_))
    · exact congrArg PyData.list (mapc _ _ _)
    · show PyData.bool _ = .bool (canAll M l ps (every M))
      unfold canAll
      rw [List.all_map]
      rfl
theorem can3 (h : Gf P w K mg base 5 "can_all_go" (fun vs H Q E => spCan4 K C (vs ++ [.non]) H Q E)) : Gf P w K mg base 5 "can_all_go" (spCan K C) := by
  obtain ⟨f, F, g⟩ := h.ex
  refine ⟨f, F.imp fun vs H Q E ⟨t, B, sb, ha, hp, q⟩ => ?_, g⟩
  obtain ⟨va, vb, vc, rfl, h1, h2, h3⟩ := allM3 ha
  exact ⟨t, B, sb, ⟨h1, h2, h3, .non, True.intro⟩, hp, q⟩
theorem scIsF : FnScope ["machine", "log"] ["machine", "log"] (defScope (topS 34)) := ⟨rfl, rfl, rfl, by decide +kernel, rfl, by decide +kernel, by decide +kernel⟩
theorem ok_isF (L : Bl mg) (D : Gd K mg "is_firm" (topS 34) []) (G : Gf P w K mg base 6 "goers" (spGrs2 K C)) : Gf P w K mg base 7 "is_firm" (spIsF K C) :=
  D.pure scIsF (fun _ => rfl) (fun _ _ _ _ _ _ us hl => match us, hl with | [_, _], _ => rfl) fun z vs B ⟨M, l⟩ hp ha sb hr => by
    obtain ⟨va, vb, rfl, h1, h2⟩ : ∃ a b, vs = [a, b] ∧ (machM K C M).p a B ∧ Dp K B b (eTS l) := allM2 ha
    refine b_cons (s_retD (Nx.refl sb) ((ev_eqN (ev_lenT (ds := (goers M l (every M)).map eN) L.len (ev_cal (X := fx P w K mg base ["machine", "log"] "is_firm" (topS 34) z) (t := (M, l)) G hr (ea_cons (ev_var 0 rfl h1) (ea_cons (ev_var 1 rfl h2) ea_nil)) hp)) ev_int hr.u64).is ?_))
    show PyData.bool _ = PyData.bool _
    rw [List.length_map]
    exact congrArg PyData.bool (decide_eq_decide.mpr List.length_eq_zero_iff)
abbrev sFrm : List Str := ["machine", "log", "own", "found"]
theorem scFrm : FnScope sFrm ["machine", "log"] (defScope (topS 35)) := ⟨rfl, rfl, rfl, by decide +kernel, rfl, by decide +kernel, by decide +kernel⟩
theorem ok_frm (L : Bl mg) (D : Gd K mg "firm" (topS 35) []) (G : Gf P w K mg base 6 "goers" (spGrs2 K C)) (G1 : Gf P w K mg base 3 "checked" (spCkd K C)) (G5 : Gf P w K mg base 1 "left_out" (spOut K)) : Gf P w K mg base 7 "firm" (spFirm K C) :=
  D.pure scFrm (fun _ => rfl) (fun _ _ _ _ _ _ us hl => match us, hl with | [_, _], _ => rfl) fun z vs B ⟨M, l⟩ hp ha sb hr => by
    obtain ⟨va, vb, rfl, h1, h2⟩ : ∃ a b, vs = [a, b] ∧ (machM K C M).p a B ∧ Dp K B b (eTS l) := allM2 ha
    obtain ⟨hM, hl⟩ : M.Ok ∧ LogOk M l := hp
    refine b_cons (s_set (P := dt K (eTS l)) 2 scFrm.nd sb (ev_cal (t := (M, l)) G1 (hr.mono (by decide)) (ea_cons (ev_var 0 rfl h1) (ea_cons (ev_var 1 rfl h2) ea_nil)) ⟨hM, hl⟩) fun ow B1 H1 x1 p1 => ?_)
    have h1a := (machM K C M).mono x1.b h1
    refine b_cons (s_set (P := dt K (eTN (goers M l (every M)))) 3 scFrm.nd x1.s (ev_cal (t := (M, l)) G hr (ea_cons (ev_var 0 rfl h1a) (ea_cons (ev_var 2 rfl p1) ea_nil)) ⟨hM, hl⟩) fun fv B2 H2 x2 p2 => ?_)
    refine b_cons (s_while PassesOwn.never (fun m σ B' H' => ∃ ow fv o, σ = [some va, some vb, some ow, some fv] ∧ Nx B z.H B' H' ∧ Dp K B' ow (eTS o) ∧ Dp K B' fv (eTN (goers M o (every M))) ∧ LogOk M o ∧ firm M o = firm M l ∧ m = o.length)
      _ x2.s ⟨ow, fv, l, rfl, x1.trans x2, dp_same x2.b p1, p2, hl, rfl, rfl⟩ fun m σ' B' H' s ⟨ow, fv, o, e, x', po, pf, ho, ef, em⟩ => ?_)
    subst e
    have h1 := (machM K C M).mono x'.b h1
    refine ⟨decide (0 < (goers M o (every M)).length), ET.is (et_posT (X := fx P w K mg base sFrm "firm" (topS 35) z) L.len (ev_var 3 rfl pf)) (by rw [List.length_map]), fun hb B1 H1 x1 => ?_, fun hb B1 H1 x1 => ?_⟩
    · have h1 := (machM K C M).mono x1.b h1
      have po := dp_same x1.b po
      have pf := dp_same x1.b pf
      cases e : goers M o (every M) with
      | nil =>
        rw [e] at hb
        cases hb
      | cons p r =>
        have hpm : p ∈ goers M o (every M) := by rw [e]; exact List.mem_cons_self ..
        have hpo := goers_mem.mp hpm
        rw [e] at pf
        refine b_cons (s_set (P := dt K (eTS (without o [p]))) 2 scFrm.nd x1.s (ev_cal (t := (o, [p])) G5 (hr.mono (by decide)) (ea_cons (ev_var 2 rfl po) (ea_cons (EV.is (ev_slT (X := fx P w K mg base sFrm "firm" (topS 35) z) (ev_var 3 rfl pf) eo_no (eo_yes (k := 1) ev_int)) ?_) ea_nil)) ⟨ho.len, fun q hq => by rw [List.mem_singleton.mp hq]; exact ⟨hpo.1, hpo.2.1⟩⟩) fun ov B3 H3 x3 p3 => ?_)
        · exact congrArg PyData.tuple ((cut_map eN _ _ _).trans (by rw [cut_hi]; rfl))
        · refine b_cons (s_set (P := dt K (eTN (goers M (without o [p]) (every M)))) 3 scFrm.nd x3.s (ev_cal (t := (M, without o [p])) G hr (ea_cons (ev_var 0 rfl ((machM K C M).mono x3.b h1)) (ea_cons (ev_var 2 rfl p3) ea_nil)) ⟨hM, ho.without _⟩) fun gv B4 H4 x4 p4 => b_nil ⟨_, B4, ?_, x4.s, ov, gv, without o [p], rfl, x'.trans (x1.trans (x3.trans x4)), dp_same x4.b p3, p4, ho.without _, ?_, rfl⟩)
          · rw [em]
            exact without_lt hpo.1
          · rw [← firm_go e]
            exact ef
    · have e : goers M o (every M) = [] := List.eq_nil_of_length_eq_zero (by
        have : ¬ 0 < (goers M o (every M)).length := by simpa using hb
        omega)
      rw [firm_stop e] at ef
      subst ef
      exact b_cons (s_retD (x'.trans x1) (ev_var 2 rfl (dp_same x1.b po)))
end
end K7
/-! A dict whose keys are tuples of numbers and of such tuples, and whose values are objects. -/
namespace K7
open PySem PySem.Spec PyProof.Rows L2
/-- key, where it stands, where the value stands -/
abbrev Ent := NestedKey × Addr × Addr
abbrev entF : Ent → NestedKey × Addr × Value := fun x => (x.1, x.2.1, .ref x.2.2)
def DRaw (P : Program) (w : World) (d : Addr) (xs : List Ent) (h : Heap) : Prop :=
  (d == sysModules) = false ∧ ∃ o es ep, h.get? d = some o ∧ o.ExactDict ∧ o.data = .dict es ep ∧ es.toList = (xs.map entF).map (entryOfKey (nestedKind P w)) ∧ (xs.map (·.1)).Nodup
def DO (P : Program) (w : World) (d : Addr) (xs : List Ent) : HO := .ext (DRaw P w d xs)
theorem do_new {P : Program} {w : World} {H : Hp} {h : Heap} {d : Addr} {xs : List Ent} (R : DRaw P w d xs h) : ObjOk P w H h d (DO P w d xs) := by
  obtain ⟨_, o, _, _, ho, _⟩ := id R
  exact ⟨R, ⟨o, ho⟩, fun h1 h2 ⟨a, o, es, ep, ho, r⟩ k => ⟨a, o, es, ep, k o ho, r⟩⟩
theorem do_get {X : Cx} {pins : List (Addr × Obj)} {σ : L2.St} {H : Hp} {s : Shared} {d : Addr} {xs : List Ent} (I : Inv X pins σ H s) (h : H d = some (DO X.prog X.w d xs)) : DRaw X.prog X.w d xs s.heap := (I.hok d _ h).1
/-- the keys stand -/
def KeysIn (K : PySem.W.Frag) (B : Hp) (xs : List Ent) : Prop := ∀ x ∈ xs, Dp K B (.ref x.2.1) x.1.data ∧ x.1.depth ≤ 8
theorem KeysIn.mono {K : PySem.W.Frag} {B B' : Hp} {xs : List Ent} (s : Same B B') (h : KeysIn K B xs) : KeysIn K B' xs := fun x hx => ⟨dp_same s (h x hx).1, (h x hx).2⟩
section
variable {X : Cx} {pins : List (Addr × Obj)} {σ : L2.St} {H : Hp} {s : Shared}
mutual
theorem nest_is (I : Inv X pins σ H s) : ∀ (k : NestedKey) {v : V} {u : Value}, Dp X.K H v k.data → RelV v u → NestedIs s.heap k u
  | .none, v, u, h, r => by
    have e := dp_n h
    subst e
    have e : u = .none := r
    subst e
    exact .none
  | .num i, v, u, h, r => by
    have e := dp_i h
    subst e
    obtain ⟨t, rfl⟩ := r
    exact .int i t
  | .text x, v, u, h, r => by
    have e := dp_s h
    subst e
    obtain ⟨t, rfl⟩ := r
    exact .text x t
  | .tup ks, v, u, h, r => by
    obtain ⟨a, xs, rfl, hq, hd⟩ := dp_t h
    cases r
    obtain ⟨its, rv, ⟨o, ho, hc, n, hdt⟩, _⟩ := I.tuple hq
    exact .tup ho hc hdt (nest_all I ks hd (by simpa using rv))
theorem nest_all (I : Inv X pins σ H s) : ∀ (ks : List NestedKey) {vs : List V} {us : List Value}, DpAll X.K H vs (NestedKey.datas ks) → Vals vs us → NestedAll s.heap ks us
  | [], vs, us, h, r => by
    cases h
    cases r
    exact .nil
  | k :: ks, vs, us, h, r => by
    cases h with
    | cons h1 h2 =>
      cases r with
      | cons r1 r2 => exact .cons (nest_is I k h1 r1) (nest_all I ks h2 r2)
end
theorem nest_key (I : Inv X pins σ H s) {k : NestedKey} {a : Addr} (h : Dp X.K H (.ref a) k.data) (hd : k.depth ≤ 8) : (nestedKind X.prog X.w).is s.heap k a := ⟨nest_is I k h rfl, hd⟩
theorem do_full (I : Inv X pins σ H s) {d : Addr} {xs : List Ent} (R : DRaw X.prog X.w d xs s.heap) (hk : KeysIn X.K H xs) : s.heap.DictOfH (nestedKind X.prog X.w) d (xs.map entF) := by
  obtain ⟨_, o, es, ep, h1, h2, h3, h4, h5⟩ := R
  refine ⟨o, es, ep, h1, h2, h3, h4, fun x hx => ?_, by rw [List.map_map]; exact h5⟩
  obtain ⟨y, hy, rfl⟩ := List.mem_map.mp hx
  exact nest_key I (hk y hy).1 (hk y hy).2
theorem atKey_ent (xs : List Ent) (k : NestedKey) : (atKey (xs.map entF) k).isSome = decide (k ∈ xs.map (·.1)) := by
  unfold atKey
  rw [Option.isSome_map, List.find?_map, Option.isSome_map]
  by_cases h : k ∈ xs.map (·.1)
  · rw [decide_eq_true h, List.find?_isSome]
    obtain ⟨x, hx, e⟩ := List.mem_map.mp h
    exact ⟨x, hx, decide_eq_true e⟩
  · rw [decide_eq_false h]
    cases e : (xs.find? ((fun x => decide (x.1 = k)) ∘ entF)).isSome with
    | false => rfl
    | true =>
      obtain ⟨x, hx, e⟩ := List.find?_isSome.mp e
      exact absurd (List.mem_map.mpr ⟨x, hx, of_decide_eq_true (show decide (x.1 = k) = true from e)⟩) h
theorem atKey_no {xs : List Ent} {k : NestedKey} (h : k ∉ xs.map (·.1)) : atKey (xs.map entF) k = none := by
  have e := atKey_ent xs k
  rw [decide_eq_false h] at e
  cases q : atKey (xs.map entF) k with
  | none => rfl
  | some p =>
    rw [q] at e
    cases e
theorem big_ne {h : Heap} {d : Addr} (b : sysModules < d) : (d == sysModules) = false := by
  cases e : (d == sysModules) with
  | false => rfl
  | true =>
    have := eq_of_beq e
    exact absurd b (by rw [this]; exact Nat.lt_irrefl _)
theorem room8 {A : Around} (hu : A.units + 65 < cLine) : (nestedKind X.prog X.w).room A.in1 := by
  show A.in1.units + 8 < cLine
  have : A.in1.units = A.units + 1 := rfl
  omega
theorem room8' {A : Around} (hu : A.units + 65 < cLine) : (nestedKind X.prog X.w).room A := by
  show A.units + 8 < cLine
  omega
/-- mark not in found -/
def rNotInN (X : Cx) : R2 := fun x y H Q => ∃ d xs k a, x = .ref a ∧ y = .ref d ∧ H d = some (DO X.prog X.w d xs) ∧ KeysIn X.K H xs ∧ Dp X.K H (.ref a) k.data ∧ k.depth ≤ 8 ∧ Q (.bl (!decide (k ∈ xs.map (·.1)))) H
theorem op_notInN (hu : X.A.units + 65 < cLine) : OpR X (compareOp .NotIn) (rNotInN X) := by
  intro pins s σ H x y v u Q I rx ry h
  obtain ⟨d, xs, k, a, rfl, rfl, hd, hk, hka, h8, q⟩ := h
  cases rx
  cases ry
  have R := do_get I hd
  show wpAny _ _ (do return Value.bool (!(← contains (.ref d) (.ref a)))) _ X.xe s
  refine wpAny_bind (wpAny_contains_heap (room8 hu) (nest_key I hka h8) R.1 (do_full I R hk) (wpAny_pure ?_))
  rw [atKey_ent]
  exact ⟨.bl _, H, I.tok _, rfl, q⟩
/-- found[mark] = log -/
theorem s_putN {o iE value : Expr} {pos' pos : Pos} {D : Ends} {dv : List PyData} {d : Addr} {xs : List Ent} {ks : List NestedKey} {B : Hp} (hu : X.A.units + 65 < cLine) (sb : Same B H) (hv : EV X value σ B (dt X.K (.tuple dv))) (ho : EV X o σ B (eqM (.ref d))) (hi : EV X iE σ B (dt X.K (NestedKey.tup ks).data))
    (hd : H d = some (DO X.prog X.w d xs)) (hb : B d = none) (hk : KeysIn X.K B xs) (h8 : (NestedKey.tup ks).depth ≤ 8) (hno : NestedKey.tup ks ∉ xs.map (·.1)) (hz : xs.length ≤ 100000)
    (k : ∀ a l B1 H1, Nx B H B1 H1 → Dp X.K B1 (.ref a) (NestedKey.tup ks).data → Dp X.K B1 (.ref l) (.tuple dv) → D.nx σ (upd H1 d (DO X.prog X.w d (xs ++ [(.tup ks, a, l)]))))
    (hs : swapsWith value (some (.Subscript o iE pos')) pos.line X.env = pure false := by rfl) : wS X (.Assign [.Subscript o iE pos'] value pos) D σ H := by
  refine wS_i fun pins s I => ?_
  refine wpAny_Assign_Subscript (thn (wE_o (hv H sb (fun v H1 => ∃ B1, Nx B H B1 H1 ∧ Dp X.K B1 v (.tuple dv)) (fun v B1 H1 x1 p => ⟨B1, x1, p⟩)) pins s I) fun r s1 ⟨v, H1, I1, rv, B1, x1, pv⟩ =>
    thn (wE_o (EV.mono x1.b ho H1 x1.s (fun u H2 => ∃ B2, Nx B1 H1 B2 H2 ∧ u = .ref d) (fun v B2 H2 x2 p => ⟨B2, x2, p⟩)) pins s1 I1) fun r2 s2 ⟨u, H2, I2, ru, B2, x2, eu⟩ =>
    thn (wE_o (EV.mono (x1.b.trans x2.b) hi H2 x2.s (fun u H3 => ∃ B3, Nx B2 H2 B3 H3 ∧ Dp X.K B3 u (NestedKey.tup ks).data) (fun v B2 H2 x2 p => ⟨B2, x2, p⟩)) pins s2 I2) fun r3 s3 ⟨y, H3, I3, ry, B3, x3, py⟩ => ?_) hs
  subst eu
  cases ru
  obtain ⟨l, ls, rfl, _⟩ := dp_t pv
  cases rv
  obtain ⟨a, as, rfl, _⟩ := dp_t py
  cases ry
  have xx := x1.trans (x2.trans x3)
  have hd3 : H3 d = some (DO X.prog X.w d xs) := xx.h _ _ hd
  have R := do_get I3 hd3
  refine wpAny_setItem_heap (hsz := by rw [List.length_map, sizeLine_eq]; omega) (room8 hu) (nest_key I3 (dp_same x3.s py) h8) (do_full I3 R ((hk.mono xx.b).mono xx.s)) fun h' full sb2 => ?_
  rw [storedH_new (atKey_no hno)] at full
  obtain ⟨o', es, ep, g1, g2, g3, g4, g5, g6⟩ := full
  refine ⟨σ, upd H3 d (DO X.prog X.w d (xs ++ [(.tup ks, a, l)])), d_write I3 (by rw [hd3]; exact True.intro) sb2 ⟨o', g1⟩ (do_new ⟨R.1, o', es, ep, g1, g2, g3, ?_, ?_⟩), k a l B3 H3 xx py (dp_same (x2.b.trans x3.b) pv)⟩
  · rw [List.map_append]
    exact g4
  · rw [List.map_append]
    rw [List.map_append, List.map_map] at g6
    exact g6
/-- {key: value} -/
theorem w_disp1 {key val : Expr} {pos : Pos} {Q : VK} (hu : X.A.units + 65 < cLine)
    (h : ∀ d, H d = none → wE X key σ (upd H d (DO X.prog X.w d [])) fun u H1 => wE X val σ H1 fun v H2 => ∃ k a l, u = .ref a ∧ v = .ref l ∧ H2 d = some (DO X.prog X.w d []) ∧ Dp X.K H2 (.ref a) k.data ∧ k.depth ≤ 8 ∧ Q (.ref d) (upd H2 d (DO X.prog X.w d [(k, a, l)])))
    (hsh : (evalEachOpt [some key] X.env).zip ((evalEach [val] X.env).map fun v => do let x ← v; standAt pos; pure x) = [(eval key X.env, (do let x ← eval val X.env; standAt pos; pure x))].map fun p => (some p.1, p.2) := by rfl) : wE X (.Dict [some key] [val] pos) σ H Q := by
  refine wE_i fun pins s I => ?_
  have hn := I.hok.fresh (Nat.le_refl s.heap.objs.size)
  have hm : (s.heap.objs.size == sysModules) = false := big_ne (h := s.heap) I.big
  have I1 := I.laid (a := s.heap.objs.size) (o := DO X.prog X.w s.heap.objs.size []) (h' := s.heap.push { cls := .type "dict", data := .dict #[] }) (t' := s.toks) (fun _ _ q => Heap.get?_push_of_some _ q) (Nat.le_refl _)
    (do_new ⟨hm, _, #[], 0, Heap.get?_push_size _ rfl, ⟨rfl, rfl, rfl⟩, rfl, rfl, List.nodup_nil⟩)
  rw [arm_eval_Dict, hsh, List.map_cons, List.map_nil]
  have ed := dictDisplay_pairs [(eval key X.env, (do let x ← eval val X.env; standAt pos; pure x))] (by simp) (by simp)
  rw [List.map_cons, List.map_nil] at ed
  rw [ed]
  refine wpAny_bind (wpAny_standAt (wpAny_bind (wpAny_subDictH (knd := nestedKind X.prog X.w) (room8' hu) (by simp) (evalPairs_cons (thn (wE_o (h _ hn) pins _ I1) fun u s1 ⟨x, H1, I2, rx, q1⟩ => ?_)))))
  refine wpAny_bind (thn (wE_o q1 pins s1 I2) fun v s2 ⟨y, H2, I3, ry, k, a, l, ex, ey, hd, hk, h8, q⟩ => wpAny_bind (wpAny_standAt (wpAny_pure (evalPairs_nil ?_))))
  subst ex ey
  cases rx
  cases ry
  have R := do_get I3 hd
  refine ⟨[(k, a, .ref l)], ⟨rfl, rfl, nest_key I3 hk h8, True.intro⟩, do_full I3 R (fun x hx => by cases hx), fun h' tk full sb => wpAny_pure ?_⟩
  have e : storedAllH [] [(k, a, Value.ref l)] = [(k, a, Value.ref l)] := by
    show storedH [] k a (.ref l) = _
    exact PySem.storedH_new rfl a _
  rw [e] at full
  obtain ⟨o', es, ep, g1, g2, g3, g4, g5, g6⟩ := full
  exact ⟨.ref _, upd H2 s.heap.objs.size (DO X.prog X.w s.heap.objs.size [(k, a, l)]), d_write I3 (by rw [hd]; exact True.intro) sb ⟨o', g1⟩ (do_new ⟨R.1, o', es, ep, g1, g2, g3, g4, by simp⟩), rfl, q⟩
/-- from here on the dict is read, no more written -/
theorem s_freeze {st : Stmt} {D : Ends} {d : Addr} {xs : List Ent} (hd : H d = some (DO X.prog X.w d xs)) (h : ∀ o, wS X st D σ (upd H d (.frz o (DO X.prog X.w d xs)))) : wS X st D σ H := by
  refine wS_i fun pins s I => ?_
  obtain ⟨od, I1⟩ := I.lock hd True.intro
  exact wS_o (h od) pins s I1
def ItN (P : Program) (w : World) (d : Addr) (o : Obj) (xs : List Ent) : It :=
  ⟨fun i H => H d = some (.frz o (DO P w d xs)) ∧ i < xs.length, fun i H v H' => ∃ T k a l, xs[i]? = some (k, a, l) ∧ v = .ref T ∧ H T = none ∧ H' = upd H T (.tup [.ref a, .ref l]), fun i H => H d = some (.frz o (DO P w d xs)) ∧ i = xs.length⟩
theorem frz_do {d : Addr} {o : Obj} {xs : List Ent} (I : Inv X pins σ H s) (h : H d = some (.frz o (DO X.prog X.w d xs))) :
    (d == sysModules) = false ∧ o.ExactDict ∧ ∃ es ep, o.data = .dict es ep ∧ DT.Raw s.heap d es ep ∧ es.toList = (xs.map entF).map (entryOfKey (nestedKind X.prog X.w)) := by
  obtain ⟨hd, R, _⟩ := I.hok d _ h
  obtain ⟨hs, o', es, ep, ho, hx, hdt, he, _⟩ := R
  rw [hd] at ho
  cases ho
  exact ⟨hs, hx, es, ep, hdt, ⟨o, hd, hx, hdt⟩, he⟩
theorem turn_itemsN {P : Program} {w : World} {K : PySem.W.Frag} {elts : List Expr} {kk : Nat} {tpos : Pos} {d : Addr} {o : Obj} {xs : List Ent} {es0 : Array DictEntry} {ep : Nat} (it : Addr) (hod : o.data = .dict es0 ep) :
    Turn P w K (.Tuple elts kk tpos) (ItN P w d o xs) [it] it (fun i h => ∃ ok ov, IsItemIter h it d i xs.length ep ok ov) where
  mem := List.mem_singleton.mpr rfl
  obj := fun i h st b hb => by
    have e := List.mem_singleton.mp hb
    subst e
    obtain ⟨ok, ov, e⟩ := st
    exact ⟨_, e, fun v z => nomatch z⟩
  keep := fun i h h' st k => let ⟨ok, ov, e⟩ := st; ⟨ok, ov, k it (by simp) _ e⟩
  item := by
    intro X q1 q2 q3 hc i pins s σ H E I hf st hg
    subst q1 q2 q3
    obtain ⟨hd, hi⟩ := hg
    obtain ⟨hs, hx, es, ep', hdt, raw, he⟩ := frz_do I hd
    rw [hod] at hdt
    cases hdt
    have hl : es0.size = xs.length := by rw [← Array.length_toList, he, List.length_map, List.length_map]
    obtain ⟨ok, ov, st⟩ := st
    rw [← hl] at st
    have lt : it < s.heap.objs.size := Heap.lt_size st
    have hi' : i < es0.size := by omega
    have e1 : es0[i] = entryOfKey (nestedKind X.prog X.w) (entF xs[i]) := by
      have : es0.toList[i]? = some (es0[i]) := by rw [Array.getElem?_toList, Array.getElem?_eq_getElem hi']
      rw [he, List.getElem?_map, List.getElem?_map, List.getElem?_eq_getElem hi] at this
      injection this with this
      exact this.symm
    refine DT.nextI st raw hi' fun h1 ho hT hz hk => ?_
    refine ⟨_, rfl, wpAny_letOwnedTupleGo_items (s := { s with heap := h1 }) ho fun h2 he2 sb => ?_⟩
    rw [e1] at hT
    have T2 : h2.get? s.heap.objs.size = some { cls := .type "tuple", data := .seq #[.ref xs[i].2.1, .ref xs[i].2.2] } := (sb.2 _ (Nat.ne_of_gt lt)).trans hT
    have new : ObjOk X.prog X.w (upd H s.heap.objs.size (.tup [.ref xs[i].2.1, .ref xs[i].2.2])) h2 s.heap.objs.size (.tup [.ref xs[i].2.1, .ref xs[i].2.2]) := ⟨by show 2 ≤ sizeLine; decide, [.ref xs[i].2.1, .ref xs[i].2.2], .cons rfl (.cons rfl .nil), ⟨_, T2, rfl, _, rfl⟩⟩
    have I1 : Inv X pins σ (upd H s.heap.objs.size (.tup [.ref xs[i].2.1, .ref xs[i].2.2])) { s with heap := h2 } := I.turnedNew (t' := s.toks) (ch := [it]) (fun b ob hb e => (sb.2 b (by simpa using hb)).trans (hk b ob (by simpa using hb) e)) hf (Nat.le_refl _) new
    refine ⟨.ref s.heap.objs.size, _, I1, rfl, ⟨_, xs[i].1, xs[i].2.1, xs[i].2.2, List.getElem?_eq_getElem hi, rfl, I.hok.fresh (Nat.le_refl _), rfl⟩, ⟨_, _, by rw [← hl]; exact he2⟩, fun b hb => ?_⟩
    have e := List.mem_singleton.mp hb
    rw [e, upd_ne (Nat.ne_of_lt lt)]
    exact (hf it (by simp)).1
  done := by
    intro X q1 q2 q3 hc i pins s σ H E I hf st hg
    subst q1 q2 q3
    obtain ⟨hd, hi⟩ := hg
    obtain ⟨f0, f1, f2, f3, f4, f5⟩ := hf it (by simp)
    obtain ⟨hs, hx, es, ep', hdt, raw, he⟩ := frz_do I hd
    rw [hod] at hdt
    cases hdt
    have hl : es0.size = xs.length := by rw [← Array.length_toList, he, List.length_map, List.length_map]
    obtain ⟨ok, ov, st⟩ := st
    rw [← hl] at st
    exact DT.endI (I.ok.hd hc) st raw (by omega) fun h' eb => ⟨rfl, I.turned (t' := s.toks) (fun b ob hb e => eb b ob hb e) f0 f1 f3 f4 f5⟩
  self := fun A i s Q E st h => let ⟨_, _, e⟩ := st; PySem.W.kcp_self e h
def iItemsN (X : Cx) (td : TE) : TI := fun σ H R => td σ H fun x H1 => ∃ d o xs, x = .ref d ∧ H1 d = some (.frz o (DO X.prog X.w d xs)) ∧ R (ItN X.prog X.w d o xs) H1
theorem pi_itemsN {e : Expr} {td : TE} {elts : List Expr} {kk : Nat} {tpos apos cpos : Pos} (he : PE X e td) (hbase : attributeBase e "items" X.env (eval e X.env) = eval e X.env := by rfl) (hline : (apos.endLine == cpos.line) = true := by rfl) :
    PI X (.Tuple elts kk tpos) (.Call (.Attribute e "items" apos) [] [] cpos) (iItemsN X td) := by
  refine ⟨fun pins s σ H R I h => ?_⟩
  refine wpAny_Call_method (T := "dict") (id := "dict.items") hbase rfl hline F.plainAttrs_dict F.slot_dict_items F.type_dict_items (thn (he.run pins s σ H _ I h) fun u s1 ⟨x, H1, I1, rx, d, o, xs, ex, hd, q⟩ => ?_)
  subst ex
  cases rx
  obtain ⟨hs, hx, es, ep, hdt, raw, hes⟩ := frz_do I1 hd
  have hl : es.size = xs.length := by rw [← Array.length_toList, hes, List.length_map, List.length_map]
  have ho : s1.heap.get? d = some o := (I1.hok d _ hd).1
  refine ⟨raw.typeIs, fun a e => (by cases e; exact ⟨o, ho, hx.2.1⟩), ?_⟩
  have I2 : Inv X pins σ H1 { s1 with heap := s1.heap.push { cls := .type "dict_items", data := .fields #[.ref d] } } := I1.kept (t' := s1.toks) fun b ob q => Heap.get?_push_of_some _ q
  have fin : wpAny (model X.prog X.w) X.A (pyIter (.ref s1.heap.objs.size)) (PIE X pins σ (.Tuple elts kk tpos) R) X.xe { s1 with heap := s1.heap.push { cls := .type "dict_items", data := .fields #[.ref d] } } := by
    refine DT.iterI (d := d) ⟨_, Heap.get?_push_size _ rfl, rfl, rfl⟩ (raw.push _) (pi_one (tk := s1.toks) I2 _ (turn_itemsN _ hdt) ⟨.none, .none, ?_⟩ q)
    rw [← hl]
    exact Heap.get?_push_size _ rfl
  show wpAny _ _ (callWith cpos (.builtin "dict.items") [.ref d] [] []) _ X.xe s1
  exact method_meetsIn F.slot_dict_items F.entry_dict_items rfl (PySem.evalArgs_none ⟨rfl, raw.typeIs, F.args_dict_items_1 _, _, DT.meetsItems hs, raw, fin⟩)
end
/-! ### a frozen dict as a thing that is seen -/
theorem paired_imp {α β : Type} {R S : α → β → Prop} (f : ∀ a b, R a b → S a b) : ∀ {l : List α} {m : List β}, Paired R l m → Paired S l m
  | _, _, .nil => .nil
  | _, _, .cons h t => .cons (f _ _ h) (paired_imp f t)
/-- its rows: key, log -/
def dicM (K : PySem.W.Frag) (P : Program) (w : World) (rows : List (NestedKey × List PyData)) : Mp := ⟨fun v B => ∃ d o xs, v = .ref d ∧ B d = some (.frz o (DO P w d xs)) ∧ Paired (fun (r : NestedKey × List PyData) (x : Ent) => x.1 = r.1 ∧ Dp K B (.ref x.2.1) r.1.data ∧ Dp K B (.ref x.2.2) (.tuple r.2)) rows xs, fun s h => by
  obtain ⟨d, o, xs, e, h1, h2⟩ := h
  exact ⟨d, o, xs, e, s _ _ h1, paired_imp (fun _ _ ⟨a, b, c⟩ => ⟨a, dp_same s b, dp_same s c⟩) h2⟩⟩
theorem forall2_get {α β : Type} {R : α → β → Prop} : ∀ {l : List α} {m : List β}, Paired R l m → l.length = m.length ∧ ∀ (i : Nat) (b : β), m[i]? = some b → ∃ a, l[i]? = some a ∧ R a b
  | _, _, .nil => ⟨rfl, fun i b h => by simp at h⟩
  | _, _, .cons h t => by
    obtain ⟨e, g⟩ := forall2_get t
    refine ⟨congrArg (· + 1) e, fun i b hb => ?_⟩
    cases i with
    | zero =>
      cases hb
      exact ⟨_, rfl, h⟩
    | succ i => exact g i b (by simpa using hb)
theorem sn_items {X : Cx} {e : Expr} {σ : L2.St} {B : Hp} {elts : List Expr} {kk : Nat} {tpos apos cpos : Pos} {rows : List (NestedKey × List PyData)} (he : EV X e σ B (dicM X.K X.prog X.w rows)) (hbase : attributeBase e "items" X.env (eval e X.env) = eval e X.env := by rfl) (hline : (apos.endLine == cpos.line) = true := by rfl) :
    SN X (.Tuple elts kk tpos) (.Call (.Attribute e "items" apos) [] [] cpos) σ B rows fun r => prM (dt X.K r.1.data) (dt X.K (.tuple r.2)) := fun H s R r => i_of (pi_itemsN pe_w hbase hline) (he H s _ fun v B1 H1 x1 ⟨d, o, xs, ev, hd, hf⟩ => by
  subst ev
  obtain ⟨hl, hg⟩ := forall2_get hf
  refine ⟨d, o, xs, rfl, x1.s _ _ hd, r _ _ _ x1 ?_⟩
  rw [hl]
  refine ⟨fun i H' hi s => ⟨s _ _ hd, hi⟩, fun H' s => ⟨s _ _ hd, rfl⟩, fun i H' x H'' hi s y => ?_⟩
  obtain ⟨T, k, a, l, e1, rfl, nT, rfl⟩ := y
  obtain ⟨q, e2, _, g1, g2⟩ := hg i _ e1
  have x2 := (Nx.refl s).put (o := .tup [.ref a, .ref l]) nT
  exact ⟨x2.h, q, _, e2, x2, T, _, _, rfl, upd_same, dp_same x2.b g1, dp_same x2.b g2⟩)
end K7
/-! Comprehensions with two fors. -/
namespace K7
open PySem PySem.Spec PyProof.Rows L2
def wIz (X : Cx) (scope : Scope) (tg iter : Expr) : TI := fun σ H R => ∀ z : Bz, wI (bx X scope z) tg iter σ H R
section
variable {X : Cx} {ι κ : Type} {elt tg iter tg1 iter1 : Expr} {ifs1 : List Expr} {scope : Scope} {own : List (Str × Nat)} {vs1 : List Nat} {pos : Pos} {σ : L2.St} {B H : Hp} {its : List ι} {S : ι → Mp} {its1 : ι → List κ} {S1 : ι → κ → Mp} {f : ι → κ → Bool} {g : ι → κ → PyData}
def Turn2 (X : Cx) (scope : Scope) (vs vs1 : List Nat) (tg tg1 iter1 elt : Expr) (ifs1 : List Expr) (σ : L2.St) (B : Hp) (S : ι → Mp) (its1 : ι → List κ) (S1 : ι → κ → Mp) (f : ι → κ → Bool) (g : ι → κ → PyData) (it : ι) : Prop :=
  ∀ B', Same B B' → ∀ v, (S it).p v B' → ∃ σ', wipe σ' vs = wipe σ vs ∧ (∀ z H', Same B' H' → TJ (bx X scope z) tg (wipe σ vs) v H' σ') ∧ (∀ z, SN (bx X scope z) tg1 iter1 σ' B' (its1 it) (S1 it)) ∧
    ∀ it1 ∈ its1 it, ∀ B'', Same B' B'' → ∀ u, (S1 it it1).p u B'' → ∃ σ'', wipe σ'' vs1 = wipe σ' vs1 ∧ (∀ z H', Same B'' H' → TJ (bx X scope z) tg1 (wipe σ' vs1) u H' σ'') ∧ (∀ z, ETs (bx X scope z) ifs1 σ'' B'' (f it it1)) ∧ (f it it1 = true → ∀ z, EV (bx X scope z) elt σ'' B'' (dt X.K (g it it1)))
abbrev F2 (its1 : ι → List κ) (f : ι → κ → Bool) (g : ι → κ → PyData) (it : ι) : List PyData := ((its1 it).filter (f it)).map (g it)
theorem flat_len {α β : Type} {F : α → List β} : ∀ {l : List α}, (∀ a ∈ l, (F a).length ≤ 300) → (l.flatMap F).length ≤ 300 * l.length
  | [], _ => by simp
  | a :: l, h => by
    rw [List.flatMap_cons, List.length_append, List.length_cons]
    have h1 := h a (List.mem_cons_self ..)
    have h2 := flat_len (l := l) (F := F) fun b hb => h b (List.mem_cons_of_mem _ hb)
    omega
theorem flat_take {α β : Type} {F : α → List β} {l : List α} {i : Nat} {a : α} (h : l[i]? = some a) : (l.take (i + 1)).flatMap F = (l.take i).flatMap F ++ F a := by
  rw [List.take_add_one, h, List.flatMap_append]
  simp
theorem lc2_read {J : It} {D : Addr} {B1 H1 : Hp} {Qd : Hp → Prop} {vs : List Nat} (hz : its.length ≤ 300) (hz1 : ∀ it ∈ its, (its1 it).length ≤ 300) (s0 : Same B B1) (s1 : Same B1 H1)
    (w : Walk J its.length (fun H' => Same B1 H') (fun i H' v H'' => Same H' H'' ∧ ∃ it B2, its[i]? = some it ∧ Nx B1 H' B2 H'' ∧ (S it).p v B2)) (hD : H1 D = none)
    (turn : ∀ it ∈ its, Turn2 X scope vs vs1 tg tg1 iter1 elt ifs1 σ B S its1 S1 f g it) (hd : ∀ B' H' acc, Nx B1 H1 B' H' → H' D = some (.lst acc) → B' D = none → DpAll X.K B' acc (its.flatMap (F2 its1 f g)) → Qd H') :
    ∃ W : Nat → Nat → Hp → Prop, (∃ m, W 0 m (upd H1 D (.lst []))) ∧ ∀ i m H, W i m H →
      (J.stop i H ∧ Qd H) ∨ (J.go i H ∧ ∃ Nx : Hp → Prop, (∀ H', Nx H' → ∃ m', m' < m ∧ W (i + 1) m' H') ∧ ∀ x H', J.yld i H x H' → wGz X scope tg x (wipe σ vs) H' fun σ2 H2 => wipe σ2 vs = wipe σ vs ∧ wTz X scope [] σ2 H2 fun b H3 =>
        if b = true then wIz X scope tg1 iter1 σ2 H3 fun J1 H4 => ∃ W1 : Nat → Nat → Hp → Prop, (∃ m, W1 0 m H4) ∧ ∀ j k H, W1 j k H →
          (J1.stop j H ∧ Nx H) ∨ (J1.go j H ∧ ∃ Nx1 : Hp → Prop, (∀ H', Nx1 H' → ∃ k', k' < k ∧ W1 (j + 1) k' H') ∧ ∀ x H', J1.yld j H x H' → wGz X scope tg1 x (wipe σ2 vs1) H' fun σ3 H5 => wipe σ3 vs1 = wipe σ2 vs1 ∧ wTz X scope ifs1 σ3 H5 fun b H6 =>
            if b = true then wEz X scope elt σ3 H6 fun y H7 => ∃ acc, H7 D = some (.lst acc) ∧ acc.length < sizeLine ∧ Nx1 (upd H7 D (.lst (acc ++ [y]))) else Nx1 H6)
        else Nx H3) := by
  have b1D : B1 D = none := by
    cases e : B1 D with
    | none => rfl
    | some o =>
      rw [s1 _ _ e] at hD
      cases hD
  have tot : ∀ i, ((its.take i).flatMap (F2 its1 f g)).length ≤ 90000 := fun i => by
    have h1 := flat_len (l := its.take i) (F := F2 its1 f g) fun a ha => by
      unfold F2
      rw [List.length_map]
      exact Nat.le_trans (List.length_filter_le ..) (hz1 a (List.mem_of_mem_take ha))
    rw [List.length_take] at h1
    omega
  refine ⟨fun i m H' => m = its.length - i ∧ i ≤ its.length ∧ ∃ B' acc, Nx B1 H1 B' H' ∧ B' D = none ∧ H' D = some (.lst acc) ∧ DpAll X.K B' acc ((its.take i).flatMap (F2 its1 f g)), ⟨_, rfl, Nat.zero_le _, B1, [], (Nx.refl s1).hid hD b1D, b1D, upd_same, .nil⟩, ?_⟩
  rintro i m H' ⟨rfl, hi, B', acc, xn, bD, hl, hda⟩
  by_cases hlt : i < its.length
  · refine .inr ⟨w.goes i H' hlt (xn.b.trans xn.s), fun H' => i + 1 ≤ its.length ∧ ∃ B' acc, Nx B1 H1 B' H' ∧ B' D = none ∧ H' D = some (.lst acc) ∧ DpAll X.K B' acc ((its.take (i + 1)).flatMap (F2 its1 f g)), fun H' p => ⟨its.length - (i + 1), by omega, rfl, p⟩, fun x H'' y => ?_⟩
    obtain ⟨sy, it, B2, hit, xy, hS⟩ := w.yields i H' x H'' hlt (xn.b.trans xn.s) y
    intro z
    have hmem : it ∈ its := List.mem_of_getElem? hit
    obtain ⟨B3, x3, s3⟩ := xy.more xn.b xn.s
    have hl3 : H'' D = some (.lst acc) := sy _ _ hl
    have b3D : B3 D = none := (x3.o D (by rw [hl]; exact fun z => by cases z)).trans bD
    have xt := xn.trans x3
    have hda3 := dpa_same x3.b hda
    obtain ⟨σ', hw, hTJ, hSN, hin⟩ := turn it hmem B3 (s0.trans xt.b) x ((S it).mono s3 hS)
    refine hTJ z H'' x3.s _ ⟨hw, ?_⟩
    intro z2
    refine ets_nil (B := B3) H'' x3.s _ fun B4 H4 x4 => ?_
    refine iteT ?_
    intro z3
    have b4D : B4 D = none := (x4.o D (by rw [hl3]; exact fun z => by cases z)).trans b3D
    have hl4 : H4 D = some (.lst acc) := x4.h _ _ hl3
    obtain ⟨B4', x4', s4'⟩ := (Nx.refl x4.s).more (Same.refl _) x4.s
    have key : SN (bx X scope z3) tg1 iter1 σ' B4 (its1 it) (S1 it) := fun Ha sa R r => hSN z3 Ha (x4.b.trans sa) R fun J B5 H5 x5 w5 => by
      obtain ⟨B6, y6, s6⟩ := x5.more x4.b sa
      refine r J B6 H5 y6 (w5.mono (fun H' s => s6.trans s) fun i H' v H'' _ s ⟨sy, it, B2, e, x, g⟩ => ?_)
      obtain ⟨B7, x7, s7⟩ := x.more s6 s
      exact ⟨sy, it, B7, e, x7, (S1 _ it).mono s7 g⟩
    refine key H4 x4.s _ fun J1 B5 H5 x5 w5 => ?_
    have b5D : B5 D = none := (x5.o D (by rw [hl4]; exact fun z => by cases z)).trans b4D
    have hl5 : H5 D = some (.lst acc) := x5.h _ _ hl4
    have x05 := xt.trans (x4.trans x5)
    refine ⟨fun j k H' => k = (its1 it).length - j ∧ j ≤ (its1 it).length ∧ ∃ B' acc, Nx B1 H1 B' H' ∧ Same B5 B' ∧ B' D = none ∧ H' D = some (.lst acc) ∧ DpAll X.K B' acc ((its.take i).flatMap (F2 its1 f g) ++ (((its1 it).take j).filter (f it)).map (g it)),
      ⟨_, rfl, Nat.zero_le _, B5, acc, x05, Same.refl _, b5D, hl5, by simpa using dpa_same (x4.trans x5).b hda3⟩, ?_⟩
    rintro j k H6 ⟨rfl, hj, B6, acc6, x6, s6, b6D, hl6, hda6⟩
    by_cases hjl : j < (its1 it).length
    · refine .inr ⟨w5.goes j H6 hjl (s6.trans x6.s), fun H' => j + 1 ≤ (its1 it).length ∧ ∃ B' acc, Nx B1 H1 B' H' ∧ Same B5 B' ∧ B' D = none ∧ H' D = some (.lst acc) ∧ DpAll X.K B' acc ((its.take i).flatMap (F2 its1 f g) ++ (((its1 it).take (j + 1)).filter (f it)).map (g it)), fun H' p => ⟨(its1 it).length - (j + 1), by omega, rfl, p⟩, fun u H7 y7 => ?_⟩
      obtain ⟨sy7, it1, B7, hit1, xy7, hS7⟩ := w5.yields j H6 u H7 hjl (s6.trans x6.s) y7
      intro z4
      obtain ⟨B8, x8, s8⟩ := xy7.more s6 x6.s
      have hl8 : H7 D = some (.lst acc6) := sy7 _ _ hl6
      have b8D : B8 D = none := (x8.o D (by rw [hl6]; exact fun z => by cases z)).trans b6D
      obtain ⟨σ'', hw2, hTJ2, hT2, hE2⟩ := hin it1 (List.mem_of_getElem? hit1) B8 ((x4.trans x5).b.trans (s6.trans x8.b)) u ((S1 it it1).mono s8 hS7)
      refine hTJ2 z4 H7 x8.s _ ⟨hw2, ?_⟩
      intro z5
      have tk : ((its1 it).take (j + 1)).filter (f it) = ((its1 it).take j).filter (f it) ++ (if f it it1 = true then [it1] else []) := by
        rw [List.take_add_one, hit1, List.filter_append]
        congr 1
        by_cases hf : f it it1 = true <;> simp [hf]
      have hlen : acc6.length < 100001 := by
        have h1 := dpa_len hda6
        rw [List.length_append, List.length_map] at h1
        have h2 := List.length_filter_le (f it) ((its1 it).take j)
        rw [List.length_take] at h2
        have h3 := hz1 it hmem
        have h4 := tot i
        omega
      refine hT2 z5 H7 x8.s _ fun B9 H9 x9 => ?_
      have b9D : B9 D = none := (x9.o D (by rw [hl8]; exact fun z => by cases z)).trans b8D
      have hl9 : H9 D = some (.lst acc6) := x9.h _ _ hl8
      by_cases hf : f it it1 = true
      · rw [hf]
        refine iteT ?_
        intro z6
        refine EV.mono x9.b (hE2 hf z6) H9 x9.s _ fun y B10 H10 x10 py => ?_
        have b10D : B10 D = none := (x10.o D (by rw [hl9]; exact fun z => by cases z)).trans b9D
        have hl10 : H10 D = some (.lst acc6) := x10.h _ _ hl9
        refine ⟨acc6, hl10, Nat.lt_of_lt_of_le hlen (by decide), hjl, B10, acc6 ++ [y], (x6.trans (x8.trans (x9.trans x10))).hid hD b10D, s6.trans (x8.b.trans (x9.b.trans x10.b)), b10D, upd_same, ?_⟩
        rw [tk, if_pos hf, List.map_append, ← List.append_assoc]
        exact dpa_snoc (dpa_same x10.b (dpa_same x9.b (dpa_same x8.b hda6))) py
      · have hf' : f it it1 = false := by simpa using hf
        rw [hf']
        refine iteF ⟨hjl, B9, acc6, x6.trans (x8.trans x9), s6.trans (x8.b.trans x9.b), b9D, hl9, ?_⟩
        rw [tk, if_neg hf, List.append_nil]
        exact dpa_same x9.b (dpa_same x8.b hda6)
    · have ej : j = (its1 it).length := by omega
      subst ej
      refine .inl ⟨w5.stops H6 (s6.trans x6.s), hlt, B6, acc6, x6, b6D, hl6, ?_⟩
      rw [flat_take hit]
      rw [List.take_length] at hda6
      exact hda6
  · have e : i = its.length := by omega
    subst e
    rw [List.take_length] at hda
    exact .inl ⟨w.stops H' (xn.b.trans xn.s), hd B' H' acc xn hl bD hda⟩
theorem ev_lc2 (vs1 : List Nat) (hc : X.calm = true) (hN : X.N.Nodup) (ok : BlkOk X.N X.env.scope scope own) (hv : ∀ i ∈ vs1, i ∈ own.map (·.2)) (src : SN X tg iter σ B its S) (hz : its.length ≤ 300) (hz1 : ∀ it ∈ its, (its1 it).length ≤ 300) (turn : ∀ it ∈ its, Turn2 X scope (own.map (·.2)) vs1 tg tg1 iter1 elt ifs1 σ B S its1 S1 f g it)
    (hs : ∀ x, foldedSetIterable iter X.env x = pure x := by intro _; rfl) (hs1 : ∀ env x, foldedSetIterable iter1 env x = pure x := by intro _ _; rfl) : EV X (.ListComp elt [⟨tg, iter, [], 0⟩, ⟨tg1, iter1, ifs1, 0⟩] scope pos) σ B (dt X.K (.list (its.flatMap (F2 its1 f g)))) :=
  ev_of (pe_lc2 (vs1 := vs1) (g := wGz X scope tg) (tt := wTz X scope []) (wi1 := wIz X scope tg1 iter1) (g1 := wGz X scope tg1) (tt1 := wTz X scope ifs1) (te := wEz X scope elt) hc hN pi_w ok hv (fun s H C cl fp => ⟨fun pins s' σ' H' v u Q I r h => wG_o (h ⟨s, H, C, cl, fp⟩) pins s' u I r⟩)
      (fun s H C cl fp => ⟨fun pins s' σ' H' Q I h => wTs_o (h ⟨s, H, C, cl, fp⟩) pins s' I⟩) (fun s H C cl fp => ⟨fun pins s' σ' H' R I h => wI_o (h ⟨s, H, C, cl, fp⟩) pins s' I⟩) (fun s H C cl fp => ⟨fun pins s' σ' H' v u Q I r h => wG_o (h ⟨s, H, C, cl, fp⟩) pins s' u I r⟩)
      (fun s H C cl fp => ⟨fun pins s' σ' H' Q I h => wTs_o (h ⟨s, H, C, cl, fp⟩) pins s' I⟩) (fun s H C cl fp => ⟨fun pins s' σ' H' Q I h => wE_o (h ⟨s, H, C, cl, fp⟩) pins s' I⟩) hs hs1)
    fun H s Q q => src H s _ fun J B1 H1 x1 w D hD => lc2_read hz hz1 x1.b x1.s w hD turn fun B' H' acc x hl bD hda => q _ (upd B' D (.lst acc)) H' (x1.trans (x.see hD bD hl)) (.lst (.inl (.inl upd_same)) (dpa_same (same_new bD) hda))
theorem s_lc2 (vs1 : List Nat) {i : Nat} {y : Str} {py spos : Pos} {D : Ends} (hc : X.calm = true) (hN : X.N.Nodup) (hy : X.N[i]? = some y) (hyl : X.env.scope.names.lookup y = some .local) (hsw : swapsWith (.ListComp elt [⟨tg, iter, [], 0⟩, ⟨tg1, iter1, ifs1, 0⟩] scope pos) (some (.Name y py)) spos.line X.env = pure true)
    (ok : BlkOk X.N X.env.scope scope own) (hv : ∀ i ∈ vs1, i ∈ own.map (·.2)) (src : SN X tg iter σ B its S) (hz : its.length ≤ 300) (hz1 : ∀ it ∈ its, (its1 it).length ≤ 300) (turn : ∀ it ∈ its, Turn2 X scope (own.map (·.2)) vs1 tg tg1 iter1 elt ifs1 σ B S its1 S1 f g it) (sb : Same B H)
    (k : ∀ v B1 H1, Nx B H B1 H1 → Dp X.K B1 v (.list (its.flatMap (F2 its1 f g))) → D.nx (σ.set i (some v)) H1)
    (hs : ∀ x, foldedSetIterable iter X.env x = pure x := by intro _; rfl) (hs1 : ∀ env x, foldedSetIterable iter1 env x = pure x := by intro _ _; rfl) : wS X (.Assign [.Name y py] (.ListComp elt [⟨tg, iter, [], 0⟩, ⟨tg1, iter1, ifs1, 0⟩] scope pos) spos) D σ H :=
  s_of (ps_setLc2 (vs1 := vs1) (g := wGz X scope tg) (tt := wTz X scope []) (wi1 := wIz X scope tg1 iter1) (g1 := wGz X scope tg1) (tt1 := wTz X scope ifs1) (te := wEz X scope elt) hc hN hy hyl hsw pi_w ok hv (fun s H C cl fp => ⟨fun pins s' σ' H' v u Q I r h => wG_o (h ⟨s, H, C, cl, fp⟩) pins s' u I r⟩)
      (fun s H C cl fp => ⟨fun pins s' σ' H' Q I h => wTs_o (h ⟨s, H, C, cl, fp⟩) pins s' I⟩) (fun s H C cl fp => ⟨fun pins s' σ' H' R I h => wI_o (h ⟨s, H, C, cl, fp⟩) pins s' I⟩) (fun s H C cl fp => ⟨fun pins s' σ' H' v u Q I r h => wG_o (h ⟨s, H, C, cl, fp⟩) pins s' u I r⟩)
      (fun s H C cl fp => ⟨fun pins s' σ' H' Q I h => wTs_o (h ⟨s, H, C, cl, fp⟩) pins s' I⟩) (fun s H C cl fp => ⟨fun pins s' σ' H' Q I h => wE_o (h ⟨s, H, C, cl, fp⟩) pins s' I⟩) hs hs1)
    (src H sb _ fun J B1 H1 x1 w D hD => lc2_read hz hz1 x1.b x1.s w hD turn fun B' H' acc x hl bD hda => k _ (upd B' D (.lst acc)) H' (x1.trans (x.see hD bD hl)) (.lst (.inl (.inl upd_same)) (dpa_same (same_new bD) hda)))
end
end K7
/-! The walks of both.py: is_number, tops_of, twin_pairs, is_twins, are_twins, pairs_of. -/
namespace K7
open PySem PySem.Spec PyProof.Rows L2
section
variable {X : Cx} {a b c e : Expr} {σ : L2.St} {B : Hp} {pos p : Pos}
theorem ev_or {k j : Bool} (h : EV X a σ B (dt X.K (.bool k))) (g : k = false → EV X b σ B (dt X.K (.bool j))) : EV X (.BoolOp .Or [a, b] pos) σ B (dt X.K (.bool (k || j))) :=
  ev_of (pe_or pe_w (pe_one pe_w)) fun H s Q q => h H s _ fun x B1 H1 x1 px => by
    refine ⟨k, dp_b px, ?_⟩
    cases k with
    | true => exact iteT (q _ B1 H1 x1 (.bl true))
    | false => exact iteF (EV.mono x1.b (g rfl) H1 x1.s _ fun v B2 H2 x2 pv => q v B2 H2 (x1.trans x2) pv)
theorem et_or3 {k j i : Bool} (h : ET X a σ B k) (g : k = false → ET X b σ B j) (f : k = false → j = false → ET X c σ B i) : ET X (.BoolOp .Or [a, b, c] pos) σ B (k || j || i) :=
  et_of (PW.pt (pw_or pt_w (pw_or pt_w (pw_or1 pt_w)))) fun H s Q q => h H s _ fun B1 H1 x1 => by
    cases k with
    | true => exact iteT (by cases j <;> exact q B1 H1 x1)
    | false =>
      refine iteF (ET.mono x1.b (g rfl) H1 x1.s _ fun B2 H2 x2 => ?_)
      cases j with
      | true => exact iteT (q B2 H2 (x1.trans x2))
      | false => exact iteF (ET.mono (x1.b.trans x2.b) (f rfl rfl) H2 x2.s _ fun B3 H3 x3 => q B3 H3 (x1.trans (x2.trans x3)))
theorem ev_ty {T : String} {x : Str} (hm : X.mg x = none) (hb : bootBuiltins x = some (.type T)) (hg : Gl X x := by rfl) (hn : x ≠ "__name__" := by decide) (hd : (x == ("__debug__" : Str)) = false := by decide) : EV X (.Name x pos) σ B (eqM (.ty T)) := ev_const (pe_bltn hg hm hb (show RelV (.ty T) _ from rfl) hn hd) fun _ => rfl
theorem ev_TRIPLE (L : Bl X.mg) (hg : Gl X "TRIPLE" := by rfl) : EV X (.Name "TRIPLE" pos) σ B (dt X.K (eN 3)) := by
  obtain ⟨t, e⟩ := L.triple
  exact ev_glob (v := .int 3) e ⟨t, rfl⟩ (fun _ => .int _) hg
theorem et_neN {i j : Nat} (hu : X.A.units + 64 < cLine) (ha : EV X a σ B (dt X.K (eN i))) (hb : EV X b σ B (dt X.K (eN j))) : ET X (.Compare a [.NotEq] [b] pos) σ B (!decide (i = j)) :=
  et_ne (n := 0) (m := 0) hu ha hb rfl rfl (by decide) (by decide) ⟨inj_eN, fun h => by rw [h]⟩
end
/-! ### mirrors -/
def topsOf (n : Nat) (bl : List (List Nat)) : List Nat := (List.range n).flatMap fun p => (bl.filter fun b => decide (p ∈ b)).map fun b => b.getD 0 0
def pairsN (l : List Nat) : List (List Nat) := l.flatMap fun i => (l.filter fun j => decide (i < j)).map fun j => [i, j]
def twinPairs (M : Mac) (l : Log) : List (List Nat) := (pairsN (goers M l (every M))).filter fun p => !canAll M l p (every M)
def at0 (l : List Nat) (i : Nat) : Nat := l.getD i 0
def areTw (M : Mac) (st mv mk : List Nat) (a b : Str) : Bool :=
  (st.all fun s => decide (at0 mk (at0 (M.mv b) (at0 mv (at0 (M.mv a) s))) = at0 mk (at0 (M.mv b) (at0 mv s)))) &&
  ((st.all fun s => decide (at0 mk (at0 (M.mv b) (at0 mv (at0 (M.mv a) s))) = at0 mk (at0 mv (at0 (M.mv a) s)))) &&
  !(st.all fun s => decide (at0 mk (at0 (M.mv b) (at0 mv (at0 (M.mv a) s))) = at0 mk (at0 mv s))))
def namePairs (M : Mac) : List (Str × Str) := M.nms.flatMap fun a => M.nms.map fun b => (a, b)
abbrev eP (q : Str × Str) : PyData := .tuple [eS q.1, eS q.2]
def thingD (l : Log) (p : List Nat) : PyData := .tuple (eTS l :: p.map eN)
abbrev spNum (K : PySem.W.Frag) : Sp := spD (fun i : Nat => [dt K (eN i)]) (fun _ => True) (fun _ => dt K (.bool true))
abbrev spTops (K : PySem.W.Frag) : Sp := spD (fun t : List (List Nat) × Nat => [dt K (eB t.1), dt K (eN t.2)]) (fun t => t.2 ≤ 10 ∧ t.1.length ≤ 100) (fun t => dt K (eLN (topsOf t.2 t.1)))
abbrev spTwP (K : PySem.W.Frag) (C : Addr) : Sp := spD (fun t : Mac × Log => [machM K C t.1, dt K (eTS t.2)]) (fun t => t.1.Ok ∧ LogOk t.1 t.2) (fun t => dt K (.list ((twinPairs t.1 t.2).map eTN)))
abbrev spIsT (K : PySem.W.Frag) (C : Addr) : Sp := spD (fun t : Mac × Log × List Nat => [machM K C t.1, dt K (thingD t.2.1 t.2.2)]) (fun t => t.1.Ok ∧ LogOk t.1 t.2.1 ∧ t.2.2.length = 2) (fun t => dt K (.bool (decide (t.2.2 ∈ twinPairs t.1 t.2.1))))
abbrev spAre (K : PySem.W.Frag) (C : Addr) : Sp := spD (fun t : Mac × (List Nat × List Nat × List Nat) × Str × Str => [machM K C t.1, dt K (eTN t.2.1.1), dt K (eTN t.2.1.2.1), dt K (eLN t.2.1.2.2), dt K (eS t.2.2.1), dt K (eS t.2.2.2)])
  (fun t => t.1.Ok ∧ ((∀ i ∈ t.2.1.1, i < t.1.n) ∧ t.2.1.1.length ≤ 100) ∧ (t.2.1.2.1.length = t.1.n ∧ ∀ i ∈ t.2.1.2.1, i < t.1.n) ∧ t.2.1.2.2.length = t.1.n ∧ t.2.2.1 ∈ t.1.ks ∧ t.2.2.2 ∈ t.1.ks) (fun t => dt K (.bool (areTw t.1 t.2.1.1 t.2.1.2.1 t.2.1.2.2 t.2.2.1 t.2.2.2)))
abbrev spPrs (K : PySem.W.Frag) (C : Addr) : Sp := spD (fun M : Mac => [machM K C M]) (fun M => M.Ok) (fun M => dt K (.list ((namePairs M).map eP)))
theorem flat_eq2 {α β γ : Type} (F : α → List β) (e : β → γ) (l : List α) : l.flatMap (fun a => (F a).map e) = (l.flatMap F).map e := by
  induction l with
  | nil => rfl
  | cons a l ih => rw [List.flatMap_cons, List.flatMap_cons, List.map_append, ih]
theorem goers_len {M : Mac} {l : Log} {st : List Nat} : (goers M l st).length ≤ l.length := by
  unfold goers
  have := List.length_filter_le (fun k => (!decide (l.getD k look = look)) && mayGo M l k st) (List.range l.length)
  rwa [List.length_range] at this
theorem pairsN_mem {l p : List Nat} : p ∈ pairsN l ↔ ∃ i j, p = [i, j] ∧ i ∈ l ∧ j ∈ l ∧ i < j := by
  unfold pairsN
  rw [List.mem_flatMap]
  constructor
  · rintro ⟨i, hi, h⟩
    obtain ⟨j, hj, rfl⟩ := List.mem_map.mp h
    have := List.mem_filter.mp hj
    exact ⟨i, j, rfl, hi, this.1, by simpa using this.2⟩
  · rintro ⟨i, j, rfl, hi, hj, hij⟩
    exact ⟨i, hi, List.mem_map.mpr ⟨j, List.mem_filter.mpr ⟨hj, by simpa using hij⟩, rfl⟩⟩
theorem getD_lt {l : List Nat} {i n : Nat} (h : ∀ a ∈ l, a < n) (hi : i < l.length) : at0 l i < n := by
  unfold at0
  rw [List.getD_eq_getElem?_getD, List.getElem?_eq_getElem hi]
  exact h _ (List.getElem_mem ..)
section
variable {P : Program} {w : World} {K : PySem.W.Frag} {mg : Str → Option Value} {base : Heap} {C g : Addr}
theorem scNum : FnScope ["thing"] ["thing"] (defScope (topS 10)) := ⟨rfl, rfl, rfl, by decide +kernel, rfl, by decide +kernel, by decide +kernel⟩
theorem ok_num (L : Bl mg) (D : Gd K mg "is_number" (topS 10) []) : Gf P w K mg base 1 "is_number" (spNum K) :=
  D.pure scNum (fun _ => rfl) (fun _ _ _ _ _ _ us hl => match us, hl with | [_], _ => rfl) fun z vs B i hp ha sb hr => by
    obtain ⟨va, rfl, h1⟩ := allM1 ha
    exact b_cons (s_retD (Nx.refl sb) (EV.is (ev_and (X := fx P w K mg base ["thing"] "is_number" (topS 10) z) (k := true) (j := true) (ev_isi L.isi (ev_var 0 rfl h1) (ev_ty L.int (by decide +kernel)) (show kitB "int" "int" = some true by decide +kernel)) fun _ => ev_not (k := false) (ev_isi L.isi (ev_var 0 rfl h1) (ev_ty L.bool (by decide +kernel)) (show kitB "int" "bool" = some false by decide +kernel))) rfl))
abbrev sTps : List Str := ["blocks", "many", "place", "block"]
theorem scTps : FnScope sTps ["blocks", "many"] (defScope (topS 13)) := ⟨rfl, rfl, rfl, by decide +kernel, rfl, by decide +kernel, by decide +kernel⟩
theorem ok_tops (L : Bl mg) (D : Gd K mg "tops_of" (topS 13) []) : Gf P w K mg base 1 "tops_of" (spTops K) :=
  D.pure scTps (fun _ => rfl) (fun _ _ _ _ _ _ us hl => match us, hl with | [_, _], _ => rfl) fun z vs B ⟨bl, n⟩ hp ha sb hr => by
    obtain ⟨va, vb, rfl, h1, h2⟩ : ∃ a b, vs = [a, b] ∧ Dp K B a (eB bl) ∧ Dp K B b (eN n) := allM2 ha
    obtain ⟨hn, hb⟩ : n ≤ 10 ∧ bl.length ≤ 100 := hp
    refine b_cons (s_retD (Nx.refl sb) (EV.is (ev_lc2 (own := [("place", 2), ("block", 3)]) (its1 := fun _ : Nat => bl) (f := fun p b => decide (p ∈ b)) (g := fun _ b => eN (b.getD 0 0)) (S1 := fun _ b => dt K (eTN b)) [3] rfl scTps.nd (blkOk_by (N := sTps) (sc := defScope (topS 13)) (by decide +kernel)) (by simp) (sn_range L.range (ev_var 1 rfl h2) (by omega)) (by rw [List.length_range]; omega) (fun _ _ => by omega)
      fun p hp B' s v' hv' => ⟨[some va, some vb, some v', none], rfl, fun zz H' _ => tj_name 2 scTps.nd, fun zz => sn_enc (sn_tup (ev_var 0 rfl (dp_same s h1))), fun b hb B'' s2 u hu => ⟨[some va, some vb, some v', some u], rfl, fun zz H' _ => tj_name 3 scTps.nd, fun zz => ets_one (et_in (q := p ∈ b) (ev_var 2 rfl (dp_same s2 hv')) (EV.ofT (X := bx (fx P w K mg base sTps "tops_of" (topS 13) z) _ zz) (ev_var 3 rfl hu)) rfl (flat_eN _) mem_eN), fun hf zz => ev_ixT (i := 0) (ev_var 3 rfl hu) ev_int (at_map 0 ?_)⟩⟩) ?_))
    · have : p ∈ b := by simpa using hf
      exact List.length_pos_of_mem this
    · refine congrArg PyData.list (Eq.trans ?_ (flat_eq2 (fun p => (bl.filter fun b => decide (p ∈ b)).map fun b => b.getD 0 0) eN _))
      exact congrArg (fun F => List.flatMap F (List.range n)) (funext fun p => mapc _ _ _)
abbrev sTwP : List Str := ["machine", "log", "places", "pairs", "one", "other", "pair"]
theorem scTwP : FnScope sTwP ["machine", "log"] (defScope (topS 36)) := ⟨rfl, rfl, rfl, by decide +kernel, rfl, by decide +kernel, by decide +kernel⟩
theorem ok_twP (L : Bl mg) (D : Gd K mg "twin_pairs" (topS 36) []) (G : Gf P w K mg base 6 "goers" (spGrs2 K C)) (G2 : Gf P w K mg base 5 "can_all_go" (spCan K C)) : Gf P w K mg base 7 "twin_pairs" (spTwP K C) :=
  D.pure scTwP (fun _ => rfl) (fun _ _ _ _ _ _ us hl => match us, hl with | [_, _], _ => rfl) fun z vs B ⟨M, l⟩ hp ha sb hr => by
    obtain ⟨va, vb, rfl, h1, h2⟩ : ∃ a b, vs = [a, b] ∧ (machM K C M).p a B ∧ Dp K B b (eTS l) := allM2 ha
    obtain ⟨hM, hl⟩ : M.Ok ∧ LogOk M l := hp
    have hgl := goers_len (M := M) (l := l) (st := every M)
    have h200 := hl.len
    refine b_cons (s_set (P := dt K (eTN (goers M l (every M)))) 2 scTwP.nd sb (ev_cal (t := (M, l)) G hr (ea_cons (ev_var 0 rfl h1) (ea_cons (ev_var 1 rfl h2) ea_nil)) ⟨hM, hl⟩) fun pv B1 H1 x1 p1 => ?_)
    have h1 := (machM K C M).mono x1.b h1
    have h2 := dp_same x1.b h2
    refine b_cons (s_lc2 (own := [("one", 4), ("other", 5)]) (i := 3) (its := goers M l (every M)) (its1 := fun _ : Nat => goers M l (every M)) (f := fun i j => decide (i < j)) (g := fun i j => eTN [i, j]) (S1 := fun _ j => dt K (eN j)) [5] rfl scTwP.nd rfl rfl rfl (blkOk_by (N := sTwP) (sc := defScope (topS 36)) (by decide +kernel)) (by simp) (sn_enc (sn_tup (ev_var 2 rfl p1))) (by omega) (fun _ _ => by omega)
      (fun i hi B' s v' hv' => ⟨[some va, some vb, some pv, none, some v', none, none], rfl, fun zz H' _ => tj_name 4 scTwP.nd, fun zz => sn_enc (sn_tup (ev_var 2 rfl (dp_same s p1))), fun j hj B'' s2 u hu => ⟨[some va, some vb, some pv, none, some v', some u, none], rfl, fun zz H' _ => tj_name 5 scTwP.nd, fun zz => ets_one (et_ltN (ev_var 4 rfl (dp_same s2 hv')) (ev_var 5 rfl hu)), fun _ zz => ev_tup (ds := [eN i, eN j]) (ea_cons (ev_var 4 rfl (dp_same s2 hv')) (ea_cons (ev_var 5 rfl hu) ea_nil)) (show 2 ≤ 100000 by decide)⟩⟩)
      x1.s fun qv B2 H2 x2 p2 => ?_)
    have e2 : PyData.list ((goers M l (every M)).flatMap (F2 (fun _ : Nat => goers M l (every M)) (fun i j => decide (i < j)) fun i j => eTN [i, j])) = .list ((pairsN (goers M l (every M))).map eTN) := by
      refine congrArg PyData.list (Eq.trans ?_ (flat_eq2 (fun i => ((goers M l (every M)).filter fun j => decide (i < j)).map fun j => [i, j]) eTN _))
      exact congrArg (fun F => List.flatMap F (goers M l (every M))) (funext fun p => mapc _ _ _)
    rw [e2] at p2
    have h1 := (machM K C M).mono x2.b h1
    have h2 := dp_same x2.b h2
    have hlen : (pairsN (goers M l (every M))).length ≤ 100000 := by
      have := flat_len (l := goers M l (every M)) (F := fun i => ((goers M l (every M)).filter fun j => decide (i < j)).map fun j => [i, j]) fun i _ => by
        rw [List.length_map]
        exact Nat.le_trans (List.length_filter_le ..) (by omega)
      unfold pairsN
      omega
    refine b_cons (s_retD (x1.trans x2) (EV.is (ev_lc (own := [("pair", 6)]) (f := fun p => !canAll M l p (every M)) (g := eTN) rfl scTwP.nd (blkOk_by (N := sTwP) (sc := defScope (topS 36)) (by decide +kernel)) (sn_enc (sn_list (ev_var 3 rfl p2))) hlen
      fun p hp B' s v' hv' => ⟨[some va, some vb, some pv, some qv, none, none, some v'], rfl, fun zz H' _ => tj_name 6 scTwP.nd, fun zz => ets_one (et_not (et_val (ev_cal (X := bx (fx P w K mg base sTwP "twin_pairs" (topS 36) z) _ zz) (t := (M, l, p)) G2 (hr.mono (by decide)) (ea_cons (ev_var 0 rfl ((machM K C M).mono s h1)) (ea_cons (ev_var 1 rfl (dp_same s h2)) (ea_cons (ev_var 6 rfl hv') ea_nil))) ⟨hM, hl, ?_⟩))), fun _ zz => ev_var 6 rfl hv'⟩) rfl))
    obtain ⟨i, j, rfl, hi, hj, _⟩ := pairsN_mem.mp hp
    intro q hq
    have hq : q = i ∨ q = j := by simpa using hq
    rcases hq with e | e
    · rw [e]
      have := goers_mem.mp hi
      exact ⟨this.1, this.2.1⟩
    · rw [e]
      have := goers_mem.mp hj
      exact ⟨this.1, this.2.1⟩
abbrev sPrs : List Str := ["machine", "one", "other"]
theorem scPrs : FnScope sPrs ["machine"] (defScope (topS 40)) := ⟨rfl, rfl, rfl, by decide +kernel, rfl, by decide +kernel, by decide +kernel⟩
theorem ok_prs (T : Mth P w K mg base C) (D : Gd K mg "pairs_of" (topS 40) []) : Gf P w K mg base 3 "pairs_of" (spPrs K C) :=
  D.pure scPrs (fun _ => rfl) (fun _ _ _ _ _ _ us hl => match us, hl with | [_], _ => rfl) fun z vs B M hM ha sb hr => by
    obtain ⟨va, rfl, h1⟩ := allM1 ha
    have hl : M.nms.length ≤ 5 := by
      have := hM.pm.length_eq
      have := hM.k5
      omega
    refine b_cons (s_retD (Nx.refl sb) (EV.is (ev_lc2 (own := [("one", 1), ("other", 2)]) (its := M.nms) (its1 := fun _ : Str => M.nms) (f := fun _ _ => true) (g := fun a b => eP (a, b)) (S1 := fun _ b => dt K (eS b)) [2] rfl scPrs.nd (blkOk_by (N := sPrs) (sc := defScope (topS 40)) (by decide +kernel)) (by simp) (sn_enc (sn_tup (ev_names T hr (ev_var 0 rfl h1)))) (by omega) (fun _ _ => by omega)
      fun a ha B' s v' hv' => ⟨[some va, some v', none], rfl, fun zz H' _ => tj_name 1 scPrs.nd, fun zz => sn_enc (sn_tup (ev_names (X := bx (fx P w K mg base sPrs "pairs_of" (topS 40) z) _ zz) T hr (ev_var 0 rfl ((machM K C M).mono s h1)))), fun b hb B'' s2 u hu => ⟨[some va, some v', some u], rfl, fun zz H' _ => tj_name 2 scPrs.nd, fun zz => ets_nil, fun _ zz => ev_tup (ds := [eS a, eS b]) (ea_cons (ev_var 1 rfl (dp_same s2 hv')) (ea_cons (ev_var 2 rfl hu) ea_nil)) (show 2 ≤ 100000 by decide)⟩⟩) ?_))
    refine congrArg PyData.list (Eq.trans ?_ (flat_eq2 (fun a => M.nms.map fun b => (a, b)) eP _))
    refine congrArg (fun F => List.flatMap F M.nms) (funext fun a => ?_)
    unfold F2
    rw [filter_all]
    exact mapc _ _ _
abbrev sAre : List Str := ["machine", "states", "moves", "marks", "one", "other", "mine", "its", "state"]
theorem scAre : FnScope sAre ["machine", "states", "moves", "marks", "one", "other"] (defScope (topS 39)) := ⟨rfl, rfl, rfl, by decide +kernel, rfl, by decide +kernel, by decide +kernel⟩
theorem ev_chain {X : Cx} {a b : Expr} {σ : L2.St} {B : Hp} {pos : Pos} {l : List Nat} {i : Nat} (ha : EV X a σ B (dt X.K (eTN l))) (hb : EV X b σ B (dt X.K (eN i))) (hi : i < l.length) (hs : PlainIx b := by exact fun _ _ => rfl) : EV X (.Subscript a b pos) σ B (dt X.K (eN (at0 l i))) := ev_ixT ha hb (at_map 0 hi) hs
theorem ev_chainL {X : Cx} {a b : Expr} {σ : L2.St} {B : Hp} {pos : Pos} {l : List Nat} {i : Nat} (ha : EV X a σ B (dt X.K (eLN l))) (hb : EV X b σ B (dt X.K (eN i))) (hi : i < l.length) (hs : PlainIx b := by exact fun _ _ => rfl) : EV X (.Subscript a b pos) σ B (dt X.K (eN (at0 l i))) := ev_ixL ha hb (at_map 0 hi) hs
theorem allM6 {H : Hp} {A B C D E F : Mp} {vs : List V} (h : AllM [A, B, C, D, E, F] vs H) : ∃ a b c d e f, vs = [a, b, c, d, e, f] ∧ A.p a H ∧ B.p b H ∧ C.p c H ∧ D.p d H ∧ E.p e H ∧ F.p f H := by
  match vs, h with
  | a :: b :: vs, h =>
    obtain ⟨c, d, e, f, q, h1, h2, h3, h4⟩ := allM4 h.2.2
    exact ⟨a, b, c, d, e, f, by rw [q], h.1, h.2.1, h1, h2, h3, h4⟩
  | [_], h => exact h.2.elim
theorem ok_are (L : Bl mg) (T : Mth P w K mg base C) (D : Gd K mg "are_twins" (topS 39) []) : Gf P w K mg base 3 "are_twins" (spAre K C) :=
  D.pure scAre (fun _ => rfl) (fun _ _ _ _ _ _ us hl => match us, hl with | [_, _, _, _, _, _], _ => rfl) fun z vs B ⟨M, ⟨st, mv, mk⟩, a, b⟩ hp ha sb hr => by
    obtain ⟨va, vb, vc, vd, ve, vf, rfl, h1, h2, h3, h4, h5, h6⟩ : ∃ a1 b1 c1 d1 e1 f1, vs = [a1, b1, c1, d1, e1, f1] ∧ (machM K C M).p a1 B ∧ Dp K B b1 (eTN st) ∧ Dp K B c1 (eTN mv) ∧ Dp K B d1 (eLN mk) ∧ Dp K B e1 (eS a) ∧ Dp K B f1 (eS b) := allM6 ha
    obtain ⟨hM, ⟨hst, hs100⟩, ⟨hml, hmv⟩, hmk, hka, hkb⟩ : M.Ok ∧ ((∀ i ∈ st, i < M.n) ∧ st.length ≤ 100) ∧ (mv.length = M.n ∧ ∀ i ∈ mv, i < M.n) ∧ mk.length = M.n ∧ a ∈ M.ks ∧ b ∈ M.ks := hp
    have la := hM.ml a hka
    have lb := hM.ml b hkb
    refine b_cons (s_parT (d1 := eTN (M.mv a)) (d2 := eTN (M.mv b)) 6 7 rfl scAre.nd sb (ea_cons (ev_get T (hr.mono (by decide)) hM (ev_var 0 rfl h1) (ev_var 4 rfl h5) hka) (ea_cons (ev_get T (hr.mono (by decide)) hM (ev_var 0 rfl h1) (ev_var 5 rfl h6) hkb) ea_nil)) fun iv jv B1 H1 x1 p1 p2 => ?_)
    have t1 : ∀ {s : Nat}, s < M.n → at0 (M.mv a) s < M.n := fun h => getD_lt (hM.mb a hka) (by omega)
    have t2 : ∀ {s : Nat}, s < M.n → at0 (M.mv b) s < M.n := fun h => getD_lt (hM.mb b hkb) (by omega)
    have t3 : ∀ {s : Nat}, s < M.n → at0 mv s < M.n := fun h => getD_lt hmv (by omega)
    have tst : ∀ (B2 H2 : Hp), Nx B1 H1 B2 H2 → ∀ {b1 b2 b3 : Nat → Bool} {R : Prop}, True := fun _ _ _ _ _ _ _ => True.intro
    refine b_cons (s_if (b := !(st.all fun s => decide (at0 mk (at0 (M.mv b) (at0 mv (at0 (M.mv a) s))) = at0 mk (at0 (M.mv b) (at0 mv s))))) x1.s (et_not (et_val (EV.is (ev_all (X := fx P w K mg base sAre "are_twins" (topS 39) z) (bs := st.map fun s => decide (at0 mk (at0 (M.mv b) (at0 mv (at0 (M.mv a) s))) = at0 mk (at0 (M.mv b) (at0 mv s)))) rfl L.all (EV.is (ev_lcM (own := [("state", 8)]) (g := fun s => .bool (decide (at0 mk (at0 (M.mv b) (at0 mv (at0 (M.mv a) s))) = at0 mk (at0 (M.mv b) (at0 mv s))))) rfl scAre.nd (blkOk_by (N := sAre) (sc := defScope (topS 39)) (by decide +kernel)) (sn_enc (sn_tup (ev_var 1 rfl (dp_same x1.b h2)))) (by omega)
      fun s hs B' sB v' hv' => ⟨[some va, some vb, some vc, some vd, some ve, some vf, some iv, some jv, some v'], rfl, fun zz H' _ => tj_name 8 scAre.nd, fun zz => ?_⟩) ?_)) ?_))) (fun hb B2 H2 x2 => ?_) (fun hb B2 H2 x2 => ?_))
    · have hs := hst s hs
      exact ev_eqN (ev_chainL (ev_var 3 rfl (dp_same (x1.b.trans sB) h4)) (ev_chain (ev_var 7 rfl (dp_same sB p2)) (ev_chain (ev_var 2 rfl (dp_same (x1.b.trans sB) h3)) (ev_chain (ev_var 6 rfl (dp_same sB p1)) (ev_var 8 rfl hv') (by omega)) (by have := t1 hs; omega)) (by have := t3 (t1 hs); omega)) (by have := t2 (t3 (t1 hs)); omega))
        (ev_chainL (ev_var 3 rfl (dp_same (x1.b.trans sB) h4)) (ev_chain (ev_var 7 rfl (dp_same sB p2)) (ev_chain (ev_var 2 rfl (dp_same (x1.b.trans sB) h3)) (ev_var 8 rfl hv') (by omega)) (by have := t3 hs; omega)) (by have := t2 (t3 hs); omega)) hr.u64
    · exact congrArg PyData.list (mapc _ _ _)
    · rw [List.all_map]
      rfl
    · refine b_cons (s_retD (x1.trans x2) (ev_bl.is ?_))
      have hb : (st.all fun s => decide (at0 mk (at0 (M.mv b) (at0 mv (at0 (M.mv a) s))) = at0 mk (at0 (M.mv b) (at0 mv s)))) = false := by simpa using hb
      show PyData.bool false = .bool (areTw M st mv mk a b)
      unfold areTw
      rw [hb]
      rfl
    · have hb : (st.all fun s => decide (at0 mk (at0 (M.mv b) (at0 mv (at0 (M.mv a) s))) = at0 mk (at0 (M.mv b) (at0 mv s)))) = true := by
        cases e : (st.all fun s => decide (at0 mk (at0 (M.mv b) (at0 mv (at0 (M.mv a) s))) = at0 mk (at0 (M.mv b) (at0 mv s)))) with
        | true => rfl
        | false =>
          rw [e] at hb
          cases hb
      refine b_nil ?_
      have xb := x1.trans x2
      have p1 := dp_same x2.b p1
      have p2 := dp_same x2.b p2
      refine b_cons (s_if (b := !(st.all fun s => decide (at0 mk (at0 (M.mv b) (at0 mv (at0 (M.mv a) s))) = at0 mk (at0 mv (at0 (M.mv a) s))))) x2.s (et_not (et_val (EV.is (ev_all (X := fx P w K mg base sAre "are_twins" (topS 39) z) (bs := st.map fun s => decide (at0 mk (at0 (M.mv b) (at0 mv (at0 (M.mv a) s))) = at0 mk (at0 mv (at0 (M.mv a) s)))) rfl L.all (EV.is (ev_lcM (own := [("state", 8)]) (g := fun s => .bool (decide (at0 mk (at0 (M.mv b) (at0 mv (at0 (M.mv a) s))) = at0 mk (at0 mv (at0 (M.mv a) s))))) rfl scAre.nd (blkOk_by (N := sAre) (sc := defScope (topS 39)) (by decide +kernel)) (sn_enc (sn_tup (ev_var 1 rfl (dp_same xb.b h2)))) (by omega)
        fun s hs B' sB v' hv' => ⟨[some va, some vb, some vc, some vd, some ve, some vf, some iv, some jv, some v'], rfl, fun zz H' _ => tj_name 8 scAre.nd, fun zz => ?_⟩) ?_)) ?_))) (fun hb B3 H3 x3 => ?_) (fun hb2 B3 H3 x3 => ?_))
      · have hs := hst s hs
        exact ev_eqN (ev_chainL (ev_var 3 rfl (dp_same (xb.b.trans sB) h4)) (ev_chain (ev_var 7 rfl (dp_same sB p2)) (ev_chain (ev_var 2 rfl (dp_same (xb.b.trans sB) h3)) (ev_chain (ev_var 6 rfl (dp_same sB p1)) (ev_var 8 rfl hv') (by omega)) (by have := t1 hs; omega)) (by have := t3 (t1 hs); omega)) (by have := t2 (t3 (t1 hs)); omega))
          (ev_chainL (ev_var 3 rfl (dp_same (xb.b.trans sB) h4)) (ev_chain (ev_var 2 rfl (dp_same (xb.b.trans sB) h3)) (ev_chain (ev_var 6 rfl (dp_same sB p1)) (ev_var 8 rfl hv') (by omega)) (by have := t1 hs; omega)) (by have := t3 (t1 hs); omega)) hr.u64
      · exact congrArg PyData.list (mapc _ _ _)
      · rw [List.all_map]
        rfl
      · refine b_cons (s_retD (xb.trans x3) (ev_bl.is ?_))
        have hb2 : (st.all fun s => decide (at0 mk (at0 (M.mv b) (at0 mv (at0 (M.mv a) s))) = at0 mk (at0 mv (at0 (M.mv a) s)))) = false := by simpa using hb
        show PyData.bool false = .bool (areTw M st mv mk a b)
        unfold areTw
        rw [hb2]
        simp
      · have hb2 : (st.all fun s => decide (at0 mk (at0 (M.mv b) (at0 mv (at0 (M.mv a) s))) = at0 mk (at0 mv (at0 (M.mv a) s)))) = true := by
          cases e : (st.all fun s => decide (at0 mk (at0 (M.mv b) (at0 mv (at0 (M.mv a) s))) = at0 mk (at0 mv (at0 (M.mv a) s)))) with
          | true => rfl
          | false =>
            rw [e] at hb2
            cases hb2
        refine b_nil ?_
        have xb := xb.trans x3
        have p1 := dp_same x3.b p1
        have p2 := dp_same x3.b p2
        refine b_cons (s_retD xb (EV.is (ev_not (X := fx P w K mg base sAre "are_twins" (topS 39) z) (EV.is (ev_all (X := fx P w K mg base sAre "are_twins" (topS 39) z) (bs := st.map fun s => decide (at0 mk (at0 (M.mv b) (at0 mv (at0 (M.mv a) s))) = at0 mk (at0 mv s))) rfl L.all (EV.is (ev_lcM (own := [("state", 8)]) (g := fun s => .bool (decide (at0 mk (at0 (M.mv b) (at0 mv (at0 (M.mv a) s))) = at0 mk (at0 mv s)))) rfl scAre.nd (blkOk_by (N := sAre) (sc := defScope (topS 39)) (by decide +kernel)) (sn_enc (sn_tup (ev_var 1 rfl (dp_same xb.b h2)))) (by omega)
          fun s hs B' sB v' hv' => ⟨[some va, some vb, some vc, some vd, some ve, some vf, some iv, some jv, some v'], rfl, fun zz H' _ => tj_name 8 scAre.nd, fun zz => ?_⟩) ?_)) (d' := .bool (st.all fun s => decide (at0 mk (at0 (M.mv b) (at0 mv (at0 (M.mv a) s))) = at0 mk (at0 mv s)))) ?_)) ?_))
        · have hs := hst s hs
          exact ev_eqN (ev_chainL (ev_var 3 rfl (dp_same (xb.b.trans sB) h4)) (ev_chain (ev_var 7 rfl (dp_same sB p2)) (ev_chain (ev_var 2 rfl (dp_same (xb.b.trans sB) h3)) (ev_chain (ev_var 6 rfl (dp_same sB p1)) (ev_var 8 rfl hv') (by omega)) (by have := t1 hs; omega)) (by have := t3 (t1 hs); omega)) (by have := t2 (t3 (t1 hs)); omega))
            (ev_chainL (ev_var 3 rfl (dp_same (xb.b.trans sB) h4)) (ev_chain (ev_var 2 rfl (dp_same (xb.b.trans sB) h3)) (ev_var 8 rfl hv') (by omega)) (by have := t3 hs; omega)) hr.u64
        · exact congrArg PyData.list (mapc _ _ _)
        · rw [List.all_map]
          rfl
        · show PyData.bool _ = .bool (areTw M st mv mk a b)
          unfold areTw
          rw [hb, hb2]
          rfl
end
end K7
/-! sorted of a list of data; is_twins; first_logs. -/
namespace K7
open PySem PySem.Spec PyProof.Rows L2
section
variable {X : Cx} {e : Expr} {σ : L2.St} {B : Hp} {pos p : Pos}
def rSortD (K : PySem.W.Frag) : List V → Hp → VK → Prop := fun vs H Q => ∃ (a : Addr) (xs : List V) (ds : List PyData), vs = [.ref a] ∧ SqL K H a xs ∧ DpAll K H xs ds ∧ PySem.W.AllAlike ds ∧ PySem.W.Sortable ds ∧ (∀ d ∈ ds, d.depth ≤ 10) ∧
  ∀ (ps : List (V × PyData)) (q : Addr), ps.Perm (xs.zip ds) → H q = none → Q (.ref q) (upd H q (.lst (ps.map (·.1))))
theorem each_zip {vs : List V} {us : List Value} {ds : List PyData} (r : Vals vs us) (h : vs.length = ds.length) : PySem.W.EachIs (fun (u : Value) (b : V × PyData) => RelV b.1 u) us (vs.zip ds) := by
  induction r generalizing ds with
  | nil => exact .nil
  | @cons v u vs us r t ih =>
    cases ds with
    | nil => cases h
    | cons d ds => exact .cons r (ih (Nat.succ.inj h))
theorem each_reads {pins : List (Addr × Obj)} {H : Hp} {s : Shared} (I : Inv X pins σ H s) : ∀ {vs : List V} {us : List Value} {ds : List PyData}, Vals vs us → DpAll X.K H vs ds → PySem.W.EachIs (fun (u : Value) (b : V × PyData) => ∃ as, Reads s.heap u b.2 as) us (vs.zip ds)
  | _, _, _, .nil, .nil => .nil
  | _, _, _, .cons r t, .cons h d => .cons (Dp.reads I _ _ _ h r) (each_reads I t d)
theorem vals_each {out : List Value} {ps : List (V × PyData)} (h : PySem.W.EachIs (fun (u : Value) (b : V × PyData) => RelV b.1 u) out ps) : Vals (ps.map (·.1)) out := by
  induction h with
  | nil => exact .nil
  | cons a b ih => exact .cons a ih
theorem cr_sortD (hu : X.A.units + 65 < cLine) : CallR X (.builtin "sorted") (rSortD X.K) := by
  intro pins s σ H vs us Q I r h
  obtain ⟨a, xs, ds, rfl, hl, hd, h1, h2, h3, q⟩ := h
  rw [Vals.ref1 r]
  obtain ⟨its, rv, p, hz⟩ := I.list hl
  have el := dpa_len hd
  have em : (xs.zip ds).map (fun b : V × PyData => b.2) = ds := List.map_snd_zip (by omega)
  refine PySem.W.sorted_data (enc := fun b : V × PyData => b.2) (bs := xs.zip ds) p.isList (each_zip rv el) (each_reads I rv hd) (by rw [em]; exact h1) (by rw [em]; exact h2) (by rw [List.length_zip]; omega) (fun b hb => ?_) fun out hlo ho => ?_
  · have := h3 b.2 (by rw [← em]; exact List.mem_map_of_mem hb)
    omega
  · obtain ⟨ep, he⟩ := PyProof.Rows.sortedAll_at s.heap its out.toArray
    have hv := vals_each ho
    have pm := List.mergeSort_perm (xs.zip ds) (PySem.W.dataLe false fun b : V × PyData => b.2)
    have hlen : (((xs.zip ds).mergeSort (PySem.W.dataLe false fun b : V × PyData => b.2)).map (·.1)).length ≤ sizeLine := by
      rw [List.length_map, pm.length_eq, List.length_zip]
      omega
    exact ⟨.ref _, upd H (s.heap.objs.size + 1) (.lst (((xs.zip ds).mergeSort (PySem.W.dataLe false fun b : V × PyData => b.2)).map (·.1))), I.laid (t' := s.toks) (fun _ _ => PyProof.Rows.sortedAll_old) (Nat.le_succ _) ⟨hlen, out, ep, hv, he⟩, rfl, q _ _ pm (I.hok.fresh (Nat.le_succ _))⟩
def permM (K : PySem.W.Frag) (ds : List PyData) : Mp := ⟨fun v B => ∃ es : List PyData, es.Perm ds ∧ Dp K B v (.list es), fun s ⟨es, h1, h2⟩ => ⟨es, h1, dp_same s h2⟩⟩
theorem dpa_of_zip {K : PySem.W.Frag} {H : Hp} : ∀ {ps : List (V × PyData)}, (∀ b ∈ ps, Dp K H b.1 b.2) → DpAll K H (ps.map (·.1)) (ps.map (·.2))
  | [], _ => .nil
  | b :: ps, h => .cons (h b (List.mem_cons_self ..)) (dpa_of_zip fun c hc => h c (List.mem_cons_of_mem _ hc))
theorem dpa_zip {K : PySem.W.Frag} {H : Hp} : ∀ {xs : List V} {ds : List PyData}, DpAll K H xs ds → ∀ b ∈ xs.zip ds, Dp K H b.1 b.2
  | _, _, .nil, b, hb => by cases hb
  | _, _, .cons h t, b, hb => by
    rcases List.mem_cons.mp (show b ∈ (_, _) :: List.zip _ _ from hb) with e | hb
    · rw [e]
      exact h
    · exact dpa_zip t b hb
theorem ev_sortedD {ds : List PyData} (hu : X.A.units + 65 < cLine) (hm : X.mg "sorted" = none) (h : EV X e σ B (dt X.K (.list ds))) (h1 : PySem.W.AllAlike ds) (h2 : PySem.W.Sortable ds) (h3 : ∀ d ∈ ds, d.depth ≤ 10) (hg : Gl X "sorted" := by rfl) (he : starEach [e] X.env = (false, eval e X.env) :: starEach [] X.env := by rfl) :
    EV X (.Call (.Name "sorted" p) [e] [] pos) σ B (permM X.K ds) :=
  ev_blt (cr_sortD hu) hm (by decide +kernel) (ea_cons h ea_nil he) (fun vs B1 _ g0 => by
    obtain ⟨v, rfl, g⟩ := allM1 g0
    obtain ⟨a, xs, rfl, hl, hd⟩ := dp_l g
    intro H s Q q
    refine ⟨a, xs, ds, rfl, same_l s hl, dpa_same s hd, h1, h2, h3, fun ps r pm hr => ?_⟩
    have x1 := (Nx.refl s).put (o := .lst (ps.map (·.1))) hr
    have em : (xs.zip ds).map (fun b : V × PyData => b.2) = ds := List.map_snd_zip (by have := dpa_len hd; omega)
    refine q _ _ _ x1 ⟨ps.map (·.2), by rw [← em]; exact pm.map _, .lst (.inl (.inl upd_same)) (dpa_of_zip fun b hb => ?_)⟩
    exact dp_same x1.b (dpa_zip hd b (pm.mem_iff.mp hb))) hg (by decide) (by decide) he rfl
end
section
variable {X : Cx} {a b : Expr} {σ : L2.St} {B : Hp} {pos : Pos}
theorem ev_eqS {x y : Str} (ha : EV X a σ B (dt X.K (.str x))) (hb : EV X b σ B (dt X.K (.str y))) : EV X (.Compare a [.Eq] [b] pos) σ B (dt X.K (.bool (decide (x = y)))) :=
  ev_cmp op_eq (nomark _) ha hb fun u v B1 _ px py => rv_now (.bl _) fun H s Q q => by
    rw [dp_s px, dp_s py]
    refine ⟨rfl, ?_⟩
    have e : decide (V.str x = V.str y) = decide (x = y) := by simp
    rw [e]
    exact q
end
/-! ### is_twins -/
section
variable {P : Program} {w : World} {K : PySem.W.Frag} {mg : Str → Option Value} {base : Heap} {C g : Addr}
abbrev sIsT : List Str := ["machine", "thing", "name", "place"]
theorem scIsT : FnScope sIsT ["machine", "thing"] (defScope (topS 37)) := ⟨rfl, rfl, rfl, by decide +kernel, rfl, by decide +kernel, by decide +kernel⟩
theorem ok_isT (L : Bl mg) (T : Mth P w K mg base C) (D : Gd K mg "is_twins" (topS 37) []) (G1 : Gf P w K mg base 1 "is_number" (spNum K)) (G2 : Gf P w K mg base 7 "twin_pairs" (spTwP K C)) : Gf P w K mg base 8 "is_twins" (spIsT K C) :=
  D.pure scIsT (fun _ => rfl) (fun _ _ _ _ _ _ us hl => match us, hl with | [_, _], _ => rfl) fun z vs B ⟨M, l, pr⟩ hp ha sb hr => by
    obtain ⟨va, vb, rfl, h1, h2⟩ : ∃ a b, vs = [a, b] ∧ (machM K C M).p a B ∧ Dp K B b (thingD l pr) := allM2 ha
    obtain ⟨hM, hl, hp2⟩ : M.Ok ∧ LogOk M l ∧ pr.length = 2 := hp
    have h200 := hl.len
    have h2' : Dp K B vb (.tuple (eTS l :: pr.map eN)) := h2
    refine b_cons (s_skip sb (ET.is (et_or3 (X := fx P w K mg base sIsT "is_twins" (topS 37) z) (k := false) (j := false) (i := false) ((et_not (k := true) (et_val (ev_isi L.isi (ev_var 1 rfl h2) (ev_ty L.tuple (by decide +kernel)) (show kitB "tuple" "tuple" = some true by decide +kernel)))))
      (fun _ => ET.is (et_neN (i := (eTS l :: pr.map eN).length) (j := 3) hr.u64 (ev_lenT L.len (ev_var 1 rfl h2')) (ev_TRIPLE L)) (by simp [hp2])) fun _ _ => et_not (k := true) (et_val (ev_isi L.isi (ev_ixT (i := 0) (ds := eTS l :: pr.map eN) (d := eTS l) (ev_var 1 rfl h2') ev_int rfl) (ev_ty L.tuple (by decide +kernel)) (show kitB "tuple" "tuple" = some true by decide +kernel)))) rfl) fun B1 H1 x1 => ?_)
    have h1 := (machM K C M).mono x1.b h1
    have h2' := dp_same x1.b h2'
    refine b_cons (s_skip x1.s (ET.is (et_not (et_val (EV.is (ev_all (X := fx P w K mg base sIsT "is_twins" (topS 37) z) (bs := l.map fun x => decide (x = look) || decide (x ∈ M.nms)) rfl L.all (EV.is (ev_lcM (own := [("name", 2)]) (g := fun x => .bool (decide (x = look) || decide (x ∈ M.nms))) rfl scIsT.nd (blkOk_by (N := sIsT) (sc := defScope (topS 37)) (by decide +kernel)) (sn_enc (enc := eS) (sn_tup (ev_ixT (i := 0) (ds := eTS l :: pr.map eN) (d := eTS l) (ev_var 1 rfl h2') ev_int rfl))) (by omega)
      fun x hx B' sB v' hv' => ⟨[some va, some vb, some v', none], rfl, fun zz H' _ => tj_name 2 scIsT.nd, fun zz => ev_or (X := bx (fx P w K mg base sIsT "is_twins" (topS 37) z) _ zz) (ev_eqS (ev_var 2 rfl hv') (ev_LOOK L)) fun _ => ev_has T (hr.mono (by decide)) (ev_var 2 rfl hv') (ev_var 0 rfl ((machM K C M).mono sB h1))⟩) ?_)) (d' := .bool true) ?_)) (k := true)) rfl) fun B2 H2 x2 => ?_)
    · exact congrArg PyData.list (mapc _ _ _)
    · refine congrArg PyData.bool ?_
      rw [List.all_map, List.all_eq_true]
      intro x hx
      rcases hl.mem x hx with e | e
      · simp [e]
      · have := hM.pm.mem_iff.mpr e
        simp [this]
    have h1 := (machM K C M).mono x2.b h1
    have h2' := dp_same x2.b h2'
    refine b_cons (s_skip x2.s (ET.is (et_not (et_val (EV.is (ev_all (X := fx P w K mg base sIsT "is_twins" (topS 37) z) (bs := pr.map fun _ => true) rfl L.all (EV.is (ev_lcM (own := [("place", 3)]) (g := fun _ => .bool true) rfl scIsT.nd (blkOk_by (N := sIsT) (sc := defScope (topS 37)) (by decide +kernel)) (sn_enc (l := pr) (enc := eN) (sn_tup (EV.is (ev_slT (X := fx P w K mg base sIsT "is_twins" (topS 37) z) (ev_var 1 rfl h2') (eo_yes (k := 1) ev_int) eo_no) ?_))) (by omega)
      fun x hx B' sB v' hv' => ⟨[some va, some vb, none, some v'], rfl, fun zz H' _ => tj_name 3 scIsT.nd, fun zz => ev_cal (X := bx (fx P w K mg base sIsT "is_twins" (topS 37) z) _ zz) (t := x) G1 (hr.mono (by decide)) (ea_cons (ev_var 3 rfl hv') ea_nil) True.intro⟩) ?_)) (d' := .bool true) ?_)) (k := true)) rfl) fun B3 H3 x3 => ?_)
    · exact congrArg PyData.tuple (by rw [cut_lo]; rfl)
    · exact congrArg PyData.list (mapc (fun _ : Nat => true) PyData.bool _)
    · refine congrArg PyData.bool ?_
      rw [List.all_map, List.all_eq_true]
      intro x hx
      rfl
    have h1 := (machM K C M).mono x3.b h1
    have h2' := dp_same x3.b h2'
    refine b_cons (s_retD (x1.trans (x2.trans x3)) (ev_inD (q := pr ∈ twinPairs M l) (n := 1) (m := 1) (d := eTN pr) hr.u65 (EV.is (ev_slT (X := fx P w K mg base sIsT "is_twins" (topS 37) z) (ev_var 1 rfl h2') (eo_yes (k := 1) ev_int) eo_no) ?_) (ev_cal (X := fx P w K mg base sIsT "is_twins" (topS 37) z) (t := (M, l)) G2 hr (ea_cons (ev_var 0 rfl h1) (ea_cons (ev_ixT (i := 0) (ds := eTS l :: pr.map eN) (d := eTS l) (ev_var 1 rfl h2') ev_int rfl) ea_nil)) ⟨hM, hl⟩) (plain_eTN 0 _) (plainAll_map fun a _ => plain_eTN 0 a) (by decide) (by decide) ?_))
    · exact congrArg PyData.tuple (by rw [cut_lo]; rfl)
    · rw [List.mem_map]
      exact ⟨fun ⟨a, h, e⟩ => inj_eTN e ▸ h, fun h => ⟨pr, h, rfl⟩⟩
end
end K7
/-! A lambda with one parameter and one captured name, called by the def that got it. -/
namespace K7
open PySem PySem.Spec PyProof.Rows L2 LamX
/-! ### its frame -/
theorem newEnv_cell {M : Model} {A : Around} {E : Value → Shared → Prop} {s : Shared} {scope : Scope} {cl : List (Str × Addr)} {qual x : Str} {f : Addr} {code u : Value} {Q : Env → Shared → Prop} (hk : scope.kind = .function) (hx : scope.names.lookup x = some .cell) (hcf : ∀ n acc, cellsFrom n scope.names acc = (x, n) :: acc)
    (hpc : ∀ h : Heap, pushCells h scope.names = h.push { cls := .type "cell", data := .cell none })
    (h : ∀ h1, (∀ b o, s.heap.get? b = some o → h1.get? b = some o) → h1.Ns s.heap.objs.size (fun _ => none) → h1.IsCell (s.heap.objs.size + 1) (some u) → Q (newEnv scope s.heap.objs.size mainGlobals ((x, s.heap.objs.size + 1) :: cl) qual (some f) code none builtinsNs) { s with heap := h1 }) :
    wpAny M A (newFunctionEnv scope mainGlobals cl [(x, u)] qual (some f) code none builtinsNs) Q E s := by
  simp only [newFunctionEnv, Option.isSome_none, Bool.false_eq_true, if_false]
  refine wpAny_bind (wpAny_alloc ?_)
  refine wpAny_bind (wpAny_layCells _ (fun name kind cells => by cases hkc : kind == NameKind.cell <;> simp [hkc]) _ _ _ _ ?_)
  rw [hcf, hpc]
  generalize hfr : ({ cls := .type "frame", data := .dict #[] } : Obj) = fr
  have free : fr.isFreed = false := by subst hfr; rfl
  have sz : (s.heap.push fr).objs.size = s.heap.objs.size + 1 := Heap.size_push ..
  have szS : ({ s with heap := s.heap.push fr } : Shared).heap.objs.size = s.heap.objs.size + 1 := sz
  rw [szS]
  have cell0 : ((s.heap.push fr).push { cls := .type "cell", data := .cell none }).IsCell (s.heap.objs.size + 1) none := by
    have q := Heap.get?_push_size (s.heap.push fr) (o := { cls := .type "cell", data := .cell none }) rfl
    rw [sz] at q
    exact ⟨_, q, rfl⟩
  have ns0 : (s.heap.push fr).Ns s.heap.objs.size (fun _ => none) := by
    subst hfr
    exact Heap.Ns.new s.heap (.type "frame")
  have fin : ∀ (s2 : Shared), s2 = { s with heap := (s.heap.push fr).push { cls := .type "cell", data := .cell none } } → wpAny M A (storeName (newEnv scope s.heap.objs.size mainGlobals ((x, s.heap.objs.size + 1) :: cl) qual (some f) code none builtinsNs) x u) (fun _ s' => Q (newEnv scope s.heap.objs.size mainGlobals ((x, s.heap.objs.size + 1) :: cl) qual (some f) code none builtinsNs) s') E s2 := by
    rintro s2 rfl
    refine wpAny_storeName_cell (c := s.heap.objs.size + 1) (v₀ := none) hk hx (by show List.lookup x ((x, s.heap.objs.size + 1) :: cl) = _; simp [List.lookup]) cell0 fun h1 c1 sb => ?_
    have old : ∀ b o, b ≠ s.heap.objs.size + 1 → ((s.heap.push fr).push { cls := .type "cell", data := .cell none }).get? b = some o → h1.get? b = some o := fun b o hb e => (sb.2 b hb).trans e
    refine h h1 (fun b o e => old b o (Nat.ne_of_lt (Nat.lt_succ_of_lt (Heap.lt_size e))) (Heap.get?_push_of_some _ (Heap.get?_push_of_some _ e))) ?_ c1
    obtain ⟨o, es, ep, ho, r⟩ := ns0
    exact ⟨o, es, ep, old _ o (Nat.ne_of_lt (Nat.lt_succ_self _)) (Heap.get?_push_of_some _ ho), r⟩
  have q := fin _ rfl
  simp only [newEnv] at q
  refine wpAny_bind ?_
  rw [List.forIn_cons]
  refine wpAny_bind (wpAny_bind (thn q fun _ s' hq => wpAny_pure ?_))
  show wpAny _ _ (forIn [] _ _) _ _ _
  rw [List.forIn_nil]
  exact wpAny_pure (wpAny_pure hq)
/-! ### its names, its context -/
/-- one parameter x (a local name or a cell), one captured name y -/
structure LamP (sc scope : Scope) (x y : Str) : Prop where
  kind : scope.kind = .function
  co : scope.isCoroutine = false
  gen : scope.isGenerator = false
  hx : (scope.names.lookup x = some .local ∧ ∀ q ∈ scope.names, q.2 ≠ .cell) ∨ (scope.names.lookup x = some .cell ∧ (∀ n acc, cellsFrom n scope.names acc = (x, n) :: acc) ∧ ∀ h : Heap, pushCells h scope.names = h.push { cls := .type "cell", data := .cell none })
  hy : scope.names.lookup y = some .free
  one : ∀ q ∈ scope.names, q.2 = .cell → q.1 = x
  fr : ∀ q ∈ scope.names, q.2 = .free → q.1 = y
  ne : x ≠ y
  clo : ∀ cells c, cells.lookup y = some c → cloFrom cells scope.names [] = [(y, c)]
  sc : sc.names.lookup y = some .cell
structure LZ where
  A : Around
  outer : List Env
  s : Shared
  H : Hp
  f : Addr
  c' : Addr
  cells : List (Str × Addr)
abbrev lzEnv (X : Cx) (scope : Scope) (z : LZ) : Env := PySem.W.envX (X.env.qual ++ "<lambda>") scope z.s.heap.objs.size z.f (.ref z.c') z.cells
def lzCx (X : Cx) (N : List Str) (scope : Scope) (z : LZ) : Cx where
  prog := X.prog
  w := X.w
  K := X.K
  mg := X.mg
  base := X.base
  A := z.A.deeper (lzEnv X scope z)
  N := N
  s_0 := z.s
  H_0 := z.H
  env := lzEnv X scope z
  outer := z.outer
  stack := lzEnv X scope z :: z.outer
  ex := []
  fn := fun _ => false
  calm := true
  pn := []
  xe := fun _ _ => False
section
variable {X : Cx} {pins : List (Addr × Obj)} {σ : L2.St} {H HZ : Hp} {s s1 : Shared} {scope : Scope} {x y : Str}
/-- the frame laid: the context stands -/
theorem lz_start {A : Around} {outer : List Env} {f c' cm : Addr} {h1 : Heap} {tk : Nat} {rest : List Str} {vl vm : V} {u um : Value} {m : Str → Option Value} {cells : List (Str × Addr)} (I : Inv X pins σ H s) (L : LamP X.env.scope scope x y) (e0 : Env0 X.prog X.w X.K X.mg X.base A outer s1 HZ) (hd : A.handled = none)
    (un : Un (frs X.stack) [] H HZ s.heap s1.heap) (kp : ∀ b o, s1.heap.get? b = some o → h1.get? b = some o) (hns : h1.Ns s1.heap.objs.size m) (hcm : X.env.cells.lookup y = some cm) (hcv : s.heap.IsCell cm (some um)) (ru : RelV vl u) (rm : RelV vm um)
    (hcase : (scope.names.lookup x = some .local ∧ m x = some u ∧ cells = [(y, cm)]) ∨ (scope.names.lookup x = some .cell ∧ cells = (x, s1.heap.objs.size + 1) :: [(y, cm)] ∧ h1.IsCell (s1.heap.objs.size + 1) (some u)))
    (hN : (x :: y :: rest).Nodup) : Inv (lzCx X (x :: y :: rest) scope ⟨A, outer, s1, HZ, f, c', cells⟩) [] (L2.start (x :: y :: rest) [vl, vm]) HZ { s1 with heap := h1, toks := tk } := by
  have hc0 : H cm = none := I.freeC y cm hcm
  have cellK : h1.IsCell cm (some um) := by
    obtain ⟨o, ho, hdt⟩ := hcv
    obtain ⟨sl, q⟩ := un.any ho hc0 (by simp)
    exact ⟨_, kp _ _ q, hdt⟩
  have cz : HZ cm = none := by
    obtain ⟨o, ho, hdt⟩ := hcv
    exact un.free cm o ho hc0 (by simp)
  have ltm : cm < s1.heap.objs.size := by
    obtain ⟨o, ho, hdt⟩ := hcv
    obtain ⟨sl, q⟩ := un.any ho hc0 (by simp)
    exact Heap.lt_size q
  have look : ∀ z c, cells.lookup z = some c → (z = y ∧ c = cm) ∨ (z = x ∧ c = s1.heap.objs.size + 1 ∧ scope.names.lookup x = some .cell ∧ h1.IsCell (s1.heap.objs.size + 1) (some u)) := fun z c e => by
    rcases hcase with ⟨_, _, rfl⟩ | ⟨h1, rfl, h3⟩
    · by_cases q : z = y
      · subst q
        have e : some cm = some c := by simpa [List.lookup] using e
        cases e
        exact .inl ⟨rfl, rfl⟩
      · have : (z == y) = false := by simpa using q
        simp [List.lookup, this] at e
    · by_cases q2 : z = x
      · subst q2
        have e : some (s1.heap.objs.size + 1) = some c := by simpa [List.lookup] using e
        cases e
        exact .inr ⟨rfl, rfl, h1, h3⟩
      · have b1 : (z == x) = false := by simpa using q2
        by_cases q : z = y
        · subst q
          have e : some cm = some c := by simpa [List.lookup, b1] using e
          cases e
          exact .inl ⟨rfl, rfl⟩
        · have : (z == y) = false := by simpa using q
          simp [List.lookup, this, b1] at e
  have hasY : cells.lookup y = some cm := by
    rcases hcase with ⟨_, _, rfl⟩ | ⟨h1, rfl, h3⟩
    · simp [List.lookup]
    · have b1 : (y == x) = false := by simpa using (Ne.symm L.ne)
      simp [List.lookup, b1]
  have noA : ∀ b : Addr, b ∉ (lzCx X (x :: y :: rest) scope ⟨A, outer, s1, HZ, f, c', cells⟩).ex := fun b z => absurd (show b ∈ ([] : List Addr) from z) (by simp)
  have isC : ∀ z c, cells.lookup z = some c → ∃ v, h1.IsCell c v := fun z c e => by
    rcases look z c e with ⟨_, rfl⟩ | ⟨_, rfl, _, q⟩
    · exact ⟨_, cellK⟩
    · exact ⟨_, q⟩
  refine ⟨⟨e0.mod, L.kind, rfl, rfl, Nat.le_refl _, fun a b c e1 e2 => ?_, fun a ha => ?_, fun a c h => ?_, fun _ => hd, Around.frames_deeper e0.frames, .inr ⟨rfl, rfl⟩, fun b z => absurd z (noA b), e0.bs, e0.bsz, fun b _ _ => noA b, fun b z => absurd z (noA b), e0.funs, e0.frf⟩,
    rfl, e0.bare, Un.kept kp, ⟨m, hns, fun i a v e1 e2 e3 => ?_⟩, fun a c e => isC a c e, e0.hok.fresh (Nat.le_refl _), fun a c e => ?_, fun q hq => absurd (show q ∈ ([] : List (Addr × Obj)) ++ [] from hq) (by simp), e0.hok.kept kp, ?_⟩
  · rcases look a c e1 with ⟨rfl, rfl⟩ | ⟨rfl, rfl, _⟩
    · rcases look b _ e2 with ⟨rfl, _⟩ | ⟨_, h, _⟩
      · rfl
      · rw [h] at ltm
        exact absurd ltm (Nat.not_lt.mpr (Nat.le_succ _))
    · rcases look b _ e2 with ⟨_, h⟩ | ⟨rfl, _⟩
      · rw [← h] at ltm
        exact absurd ltm (Nat.not_lt.mpr (Nat.le_succ _))
      · rfl
  · have ha : scope.names.lookup a = some .cell ∨ scope.names.lookup a = some .free := ha
    rcases ha with ha | ha
    · have e := L.one _ (PySem.mem_of_lookup ha) rfl
      have e : a = x := e
      subst e
      rcases hcase with ⟨k1, _⟩ | ⟨k1, rfl, k3⟩
      · have ha2 : scope.names.lookup a = some .cell := by assumption
        rw [k1] at ha2
        cases ha2
      · exact ⟨_, by show List.lookup a ((a, s1.heap.objs.size + 1) :: [(y, cm)]) = some (s1.heap.objs.size + 1); simp [List.lookup]⟩
    · have e : a = y := L.fr _ (PySem.mem_of_lookup ha) rfl
      subst e
      exact ⟨cm, hasY⟩
  · have h : false = true := h
    cases h
  · have e3 : Vis scope a := e3
    match i, e1, e2 with
    | 0, e1, e2 =>
      have e1 : some x = some a := e1
      injection e1 with e1
      have e2 : vl = v := by simpa [L2.start] using e2
      subst e1 e2
      rcases hcase with ⟨h1, h2, _⟩ | ⟨h1, rfl, h3⟩
      · exact ⟨u, ru, .inl ⟨h1, h2⟩⟩
      · exact ⟨u, ru, .inr ⟨.inl h1, _, by show List.lookup x ((x, s1.heap.objs.size + 1) :: [(y, cm)]) = some (s1.heap.objs.size + 1); simp [List.lookup], h3⟩⟩
    | 1, e1, e2 =>
      have e1 : some y = some a := e1
      injection e1 with e1
      have e2 : vm = v := by simpa [L2.start] using e2
      subst e1 e2
      exact ⟨um, rm, .inr ⟨.inr L.hy, cm, hasY, cellK⟩⟩
    | i + 2, e1, e2 =>
      have : (L2.start (x :: y :: rest) [vl, vm])[i + 2]? = (List.replicate rest.length (none : Option V))[i]? := by
        unfold L2.start
        show ([some vl, some vm] ++ List.replicate (rest.length + 1 + 1 - 2) none)[i + 2]? = _
        rw [List.getElem?_append_right (by simp)]
        simp
      rw [this, List.getElem?_replicate] at e2
      split at e2 <;> cases e2
  · rcases look a c e with ⟨_, rfl⟩ | ⟨_, rfl, _⟩
    · exact cz
    · exact e0.hok.fresh (Nat.le_succ _)
  · show (L2.start (x :: y :: rest) [vl, vm]).length = (x :: y :: rest).length
    unfold L2.start
    simp
/-- a(e), in the def that got the lambda: X is the maker's context, entered at s by the call of that def -/
theorem w_act1 {Ng : List Str} {xg : Str} {stg : Stmt} {g f c' : Addr} {cdg pm ctv : Value} {E : XK} {params : Arguments} {body e : Expr} {k i iy : Nat} {a : Str} {rest : List Str} {vm : V} {σZ : L2.St} {Q : VK} {p1 p2 : Pos} (I : Inv X pins σ H s) (L : LamP X.env.scope scope x y) (hNd : (x :: y :: rest).Nodup)
    (hf : s.heap.get? f = some (PySem.W.kla_obj "<lambda>" (X.env.qual ++ "<lambda>") params body scope (cloFrom X.env.cells scope.names []) pm c' ctv)) (hfn : H f = none) (hfr : f ∉ frs X.stack)
    (hbind : ∀ (cl : List (Str × Addr)) (u : Value), bindArgs (PySem.W.kla_fn "<lambda>" (X.env.qual ++ "<lambda>") params body scope cl pm (.ref c') ctv) ⟨[u], []⟩ = pure [(x, u)])
    (hNy : X.N[iy]? = some y) (hm : σ[iy]? = some (some vm)) (hr : Room (k + 1) (fx X.prog X.w X.K X.mg X.base Ng xg stg ⟨g, cdg, X.A, X.stack, s, H, E⟩).A)
    (hs : σZ[i]? = some (some (.ref f)))
    (h : wE (fx X.prog X.w X.K X.mg X.base Ng xg stg ⟨g, cdg, X.A, X.stack, s, H, E⟩) e σZ HZ fun v H1 => H1 c' = some (CodeO c' (X.env.qual ++ "<lambda>")) ∧ ∀ z : LZ, Room k (lzCx X (x :: y :: rest) scope z).A → wE (lzCx X (x :: y :: rest) scope z) body (L2.start (x :: y :: rest) [v, vm]) H1 Q)
    (hN : Ng[i]? = some a := by rfl) (hv : Vis (defScope stg) a := by first | exact Or.inl rfl | exact Or.inr (Or.inl rfl) | exact Or.inr (Or.inr rfl)) (hd : (a == ("__debug__" : Str)) = false := by decide) (hcd : (a == ("__classdict__" : Str)) = false := by decide)
    (he : starEach [e] (fx X.prog X.w X.K X.mg X.base Ng xg stg ⟨g, cdg, X.A, X.stack, s, H, E⟩).env = (false, eval e (fx X.prog X.w X.K X.mg X.base Ng xg stg ⟨g, cdg, X.A, X.stack, s, H, E⟩).env) :: starEach [] (fx X.prog X.w X.K X.mg X.base Ng xg stg ⟨g, cdg, X.A, X.stack, s, H, E⟩).env := by rfl) :
    wE (fx X.prog X.w X.K X.mg X.base Ng xg stg ⟨g, cdg, X.A, X.stack, s, H, E⟩) (.Call (.Name a p1) [e] [] p2) σZ HZ Q := by
  refine wE_i fun pinsZ sZ IZ => ?_
  refine wpAny_Call_Name_kw (thn ((pe_var (pos := p1) (i := i) hN hv hd hcd).run pinsZ sZ σZ HZ (fun v H1 => v = .ref f ∧ H1 = HZ) IZ ⟨.ref f, hs, rfl, rfl⟩) fun u0 s0 ⟨v0, H0, I0, r0, ev, eH⟩ => ?_)
  subst ev eH
  obtain rfl : u0 = Value.ref f := r0
  have at0 : ∀ {s1 : Shared} {H1 : Hp}, Inv (fx X.prog X.w X.K X.mg X.base Ng xg stg ⟨g, cdg, X.A, X.stack, s, H, E⟩) pinsZ σZ H1 s1 → s1.heap.get? f = some (PySem.W.kla_obj "<lambda>" (X.env.qual ++ "<lambda>") params body scope (cloFrom X.env.cells scope.names []) pm c' ctv) := fun J => J.base.keep f _ hf hfn hfr (fun z => nomatch (show f ∈ ([] : List Addr) from z))
  refine PySem.W.callWith_F ⟨_, _, _, _, at0 I0⟩ (thn (wA_o (a_of (Q := fun vs H1 => ∃ v, vs = [v] ∧ (H1 c' = some (CodeO c' (X.env.qual ++ "<lambda>")) ∧ ∀ z : LZ, Room k (lzCx X (x :: y :: rest) scope z).A → wE (lzCx X (x :: y :: rest) scope z) body (L2.start (x :: y :: rest) [v, vm]) H1 Q)) (pa_cons pe_w pa_nil he) (wE_i fun pins' s' I' => thn (wE_o h pins' s' I') fun w s'' ⟨v, H1, I2, r, q⟩ => ⟨v, H1, I2, r, v, rfl, q⟩)) p2 pinsZ s0 I0) fun us s1 ⟨vs, H1, I1, r1, v, ev, hc, hb⟩ => ?_) he rfl
  subst ev
  refine ⟨⟨_, _, _, _, at0 I1⟩, ?_⟩
  obtain ⟨u, rfl, ru⟩ := r1.one
  obtain ⟨m0, hn0, hl0⟩ := I.loc
  have hvis : Vis X.env.scope y := .inr (.inl L.sc)
  obtain ⟨um, rm, q⟩ := hl0 iy y vm hNy hm hvis
  obtain ⟨cm, hcm, hcv⟩ : ∃ cm, X.env.cells.lookup y = some cm ∧ s.heap.IsCell cm (some um) := by
    rcases q with ⟨k', _⟩ | ⟨_, c3, e', z⟩
    · have k' : X.env.scope.names.lookup y = some .local := k'
      rw [L.sc] at k'
      cases k'
    · exact ⟨c3, e', z⟩
  have clo := L.clo _ _ hcm
  have un : Un (frs X.stack) [] H H1 s.heap s1.heap := I1.base
  obtain ⟨⟨oc, cs, t, hoc, hdc, hvc⟩, _, _⟩ := I1.hok c' _ hc
  have of1 := at0 I1
  have rc : codeAny (model X.prog X.w) (fx X.prog X.w X.K X.mg X.base Ng xg stg ⟨g, cdg, X.A, X.stack, s, H, E⟩).A (.call (.ref f) ⟨[u], []⟩) (CR CX0 (fx X.prog X.w X.K X.mg X.base Ng xg stg ⟨g, cdg, X.A, X.stack, s, H, E⟩).stack X.prog X.w H1 s1 Q E0) s1 := by
    refine PySem.W.kla_callFunE hr.depth of1 rfl L.co L.gen rfl ⟨c', oc, cs, t, rfl, hoc, hdc, hvc⟩ ?_
    rw [hbind, clo]
    refine wpAny_pure ?_
    have hdl : (fx X.prog X.w X.K X.mg X.base Ng xg stg ⟨g, cdg, X.A, X.stack, s, H, E⟩).A.handled = none := hr.hd
    have go : ∀ (cells : List (Str × Addr)) (h1 : Heap) (tk : Nat), Inv (lzCx X (x :: y :: rest) scope ⟨(fx X.prog X.w X.K X.mg X.base Ng xg stg ⟨g, cdg, X.A, X.stack, s, H, E⟩).A, (fx X.prog X.w X.K X.mg X.base Ng xg stg ⟨g, cdg, X.A, X.stack, s, H, E⟩).stack, s1, H1, f, c', cells⟩) [] (L2.start (x :: y :: rest) [v, vm]) H1 { s1 with heap := h1, toks := tk } →
        codeAny (model X.prog X.w) (fx X.prog X.w X.K X.mg X.base Ng xg stg ⟨g, cdg, X.A, X.stack, s, H, E⟩).A (.expr body (PySem.W.envX (X.env.qual ++ "<lambda>") scope s1.heap.objs.size f (.ref c') cells)) (CR CX0 (fx X.prog X.w X.K X.mg X.base Ng xg stg ⟨g, cdg, X.A, X.stack, s, H, E⟩).stack X.prog X.w H1 s1 Q E0) { s1 with heap := h1, toks := tk } := fun cells h1 tk J => by
      refine PySem.W.kla_codeExpr (wpAny_mono (wE_o (hb ⟨_, _, s1, H1, f, c', cells⟩ (hr.deeper _)) [] _ J) (fun w s' hq => ?_) fun e' s' hq => (show False from hq).elim)
      obtain ⟨w', H', J', rv, q⟩ := hq
      exact ⟨w', H', J'.os, J'.bare, J'.base, J'.hok, rv, q⟩
    rcases L.hx with ⟨k1, k2⟩ | ⟨k1, k2, k3⟩
    · refine wpAny_newFunctionEnv k2 (fun q hq => ?_) (fun h1 hns hsb => ⟨I1.nolimit.fresh _ hsb, ?_⟩) L.kind
      · rw [List.mem_singleton.mp hq]
        exact k1
      · have kp : ∀ b o, s1.heap.get? b = some o → h1.get? b = some o := fun b o e => hsb.extBut b o (Nat.ne_of_lt (Heap.lt_size e)) (Heap.get?_push_of_some _ e)
        exact go _ _ _ (lz_start I L I1.env0 hdl un kp hns hcm hcv ru rm (.inl ⟨k1, by simp [List.lookup], rfl⟩) hNd)
    · refine newEnv_cell L.kind k1 k2 k3 fun h1 kp hns hcell => ⟨I1.nolimit.keeps kp, ?_⟩
      exact go _ _ _ (lz_start I L I1.env0 hdl un kp hns hcm hcv ru rm (.inr ⟨k1, rfl, hcell⟩) hNd)
  refine wpAny_call (codeAny_mono rc fun r s' hq => ?_)
  cases r with
  | error e => exact hq.elim
  | ok fl =>
    cases fl with
    | ret u => exact I1.after hq
    | next => exact hq.elim
    | brk => exact hq.elim
    | cont => exact hq.elim
end
end K7
/-! The walk of first_logs, the call of mark_of taken as given. -/
namespace K7
open PySem PySem.Spec PyProof.Rows L2
section
variable {X : Cx} {tg iter : Expr} {body : List Stmt} {D : Ends} {σ : L2.St} {B H : Hp} {pos : Pos}
/-- for tg in iter, its items known when it has come -/
theorem s_forL {P : Mp} (hp : PassesOwn (model X.prog X.w) X.A X.env X.xe) (hc : X.calm = true) (he : EV X iter σ B P) (sb : Same B H)
    (go : ∀ v B1 H1, Nx B H B1 H1 → P.p v B1 → ∃ its : List PyData, Dp X.K B1 v (.list its) ∧ ∃ Pv : Nat → L2.St → Hp → Hp → Prop, Pv 0 σ B1 H1 ∧
      (∀ i it σ' B' H' v, its[i]? = some it → Pv i σ' B' H' → Same B' H' → Dp X.K B' v it → ∃ σ2, TJ X tg σ' v H' σ2 ∧
        wB X body { D with nx := fun σ3 H3 => ∃ B3, Same B' B3 ∧ Same B3 H3 ∧ Pv (i + 1) σ3 B3 H3, ct := fun σ3 H3 => ∃ B3, Same B' B3 ∧ Same B3 H3 ∧ Pv (i + 1) σ3 B3 H3, bk := D.nx } σ2 H') ∧
      ∀ σ' B' H', Same B' H' → Pv its.length σ' B' H' → D.nx σ' H') (hs : ∀ x, foldedSetIterable iter X.env x = pure x := by intro _; rfl) : wS X (.For tg iter body [] pos) D σ H :=
  s_of (ps_for hp hc (pi_list pe_w) pg_w pb_w hs) (he H sb _ fun v B1 H1 x1 pv => by
    obtain ⟨its, hd, Pv, h0, turn, done⟩ := go v B1 H1 x1 pv
    obtain ⟨a, xs, rfl, hl, hda⟩ := dp_l hd
    refine ⟨a, rfl, ⟨xs, same_l x1.s hl⟩, ?_⟩
    have w := (walk_list (K := X.K) (a := a) (xs := xs)).mono (G' := fun H' => Same B1 H') (Y' := YAt xs) (fun H' s => same_l s hl) fun i H' x H'' _ _ y => y
    rw [dpa_len hda] at w
    exact for_it w (fun i σ' H' => ∃ B', Same B1 B' ∧ Same B' H' ∧ Pv i σ' B' H') ⟨B1, Same.refl _, x1.s, h0⟩ (fun i σ' H' _ ⟨B', s1, s2, _⟩ => s1.trans s2)
      (fun i v σ' H' H2 hi ⟨B', s1, s2, p⟩ ⟨e1, e2⟩ => by
        subst e1
        obtain ⟨d, e3, g⟩ := dpa_at hda e2
        obtain ⟨σ2, hT, hb⟩ := turn i d σ' B' _ v e3 p s2 (dp_same s1 g)
        exact hT _ (b_imp hb (fun _ _ ⟨B4, a, b, c⟩ => ⟨B4, s1.trans a, b, c⟩) (fun _ _ z => z) (fun _ _ z => z) fun _ _ ⟨B4, a, b, c⟩ => ⟨B4, s1.trans a, b, c⟩))
      fun σ' H' ⟨B', s1, s2, p⟩ => done σ' B' H' s2 p)
end
/-! ### what it keeps, in plain Lean -/
def ext (ah : Bool) (l : Log) (x : Str) : Log := if ah then x :: l else l ++ [x]
/-- logs of deeds alone -/
def LN (M : Mac) (l : Log) : Prop := ∀ x ∈ l, x ∈ M.nms
theorem LN.ext {M : Mac} {l : Log} (h : LN M l) {x : Str} (hx : x ∈ M.nms) (ah : Bool) : LN M (ext ah l x) := fun y hy => by
  unfold K7.ext at hy
  cases ah
  · rcases List.mem_append.mp hy with e | e
    · exact h y e
    · rw [List.mem_singleton.mp e]
      exact hx
  · rcases List.mem_cons.mp hy with e | e
    · rw [e]
      exact hx
    · exact h y e
theorem ext_len (ah : Bool) (l : Log) (x : Str) : (ext ah l x).length = l.length + 1 := by
  unfold ext
  cases ah <;> simp
/-- what marks logs: each of few marks, told by tuples -/
structure MkOk (M : Mac) (mk : Log → NestedKey) (N : Nat) : Prop where
  tup : ∀ l, ∃ ks, mk l = .tup ks
  dep : ∀ l, (mk l).depth ≤ 8
  few : ∃ U : List NestedKey, U.length ≤ N ∧ ∀ l, LN M l → mk l ∈ U
  small : N ≤ 30
structure FlI (M : Mac) (mk : Log → NestedKey) (ah : Bool) (ls edge : List Log) : Prop where
  nd : (ls.map mk).Nodup
  ln : ∀ l ∈ ls, LN M l ∧ l.length < ls.length
  sub : ∀ l ∈ edge, l ∈ ls
  one : ([] : Log) ∈ ls
  clo : ∀ l ∈ ls, l ∈ edge ∨ ∀ x ∈ M.nms, mk (ext ah l x) ∈ ls.map mk
  ned : edge.length ≤ ls.length
theorem nodup_le {α : Type} [DecidableEq α] : ∀ {l m : List α}, l.Nodup → (∀ a ∈ l, a ∈ m) → l.length ≤ m.length
  | [], _, _, _ => Nat.zero_le _
  | a :: l, m, h, s => by
    obtain ⟨h1, h2⟩ := List.nodup_cons.mp h
    have ha := s a (List.mem_cons_self ..)
    have := nodup_le (l := l) (m := m.erase a) h2 fun b hb => by
      have hne : b ≠ a := fun e => h1 (e ▸ hb)
      exact (List.mem_erase_of_ne hne).mpr (s b (List.mem_cons_of_mem _ hb))
    rw [List.length_erase_of_mem ha] at this
    have : 0 < m.length := List.length_pos_of_mem ha
    rw [List.length_cons]
    omega
theorem MkOk.le {M : Mac} {mk : Log → NestedKey} {N : Nat} (h : MkOk M mk N) {ls : List Log} (nd : (ls.map mk).Nodup) (ln : ∀ l ∈ ls, LN M l) : ls.length ≤ N := by
  obtain ⟨U, hU, hm⟩ := h.few
  have := nodup_le nd fun k hk => by
    obtain ⟨l, hl, rfl⟩ := List.mem_map.mp hk
    exact hm l (ln l hl)
  rw [List.length_map] at this
  omega
/-- when all is told -/
structure FlDone (M : Mac) (mk : Log → NestedKey) (ah : Bool) (N : Nat) (ls : List Log) : Prop where
  ln : ∀ l ∈ ls, LN M l ∧ l.length ≤ N
  one : ([] : Log) ∈ ls
  clo : ∀ l ∈ ls, ∀ x ∈ M.nms, mk (ext ah l x) ∈ ls.map mk
  len : ls.length ≤ N
abbrev Rows (K : PySem.W.Frag) (mk : Log → NestedKey) (B : Hp) (ls : List Log) (xs : List Ent) : Prop := Paired (fun (l : Log) (x : Ent) => x.1 = mk l ∧ Dp K B (.ref x.2.1) (mk l).data ∧ Dp K B (.ref x.2.2) (eTS l)) ls xs
theorem rows_same {K : PySem.W.Frag} {mk : Log → NestedKey} {B B' : Hp} {ls : List Log} {xs : List Ent} (s : Same B B') (h : Rows K mk B ls xs) : Rows K mk B' ls xs := paired_imp (fun _ _ ⟨a, b, c⟩ => ⟨a, dp_same s b, dp_same s c⟩) h
theorem rows_snoc {K : PySem.W.Frag} {mk : Log → NestedKey} {B : Hp} {l : Log} {x : Ent} (hx : x.1 = mk l ∧ Dp K B (.ref x.2.1) (mk l).data ∧ Dp K B (.ref x.2.2) (eTS l)) : ∀ {ls : List Log} {xs : List Ent}, Rows K mk B ls xs → Rows K mk B (ls ++ [l]) (xs ++ [x])
  | _, _, .nil => .cons hx .nil
  | _, _, .cons h t => .cons h (rows_snoc hx t)
theorem rows_keys {K : PySem.W.Frag} {mk : Log → NestedKey} {B : Hp} : ∀ {ls : List Log} {xs : List Ent}, Rows K mk B ls xs → xs.map (·.1) = ls.map mk
  | _, _, .nil => rfl
  | _, _, .cons h t => by rw [List.map_cons, List.map_cons, h.1, rows_keys t]
theorem rows_in {K : PySem.W.Frag} {mk : Log → NestedKey} {B : Hp} {M : Mac} {N : Nat} (hk : MkOk M mk N) : ∀ {ls : List Log} {xs : List Ent}, Rows K mk B ls xs → KeysIn K B xs
  | _, _, .nil, x, hx => by cases hx
  | _, _, .cons h t, x, hx => by
    rcases List.mem_cons.mp hx with e | hx
    · subst e
      rw [h.1]
      exact ⟨h.2.1, hk.dep _⟩
    · exact rows_in hk t x hx
theorem rowz_len {K : PySem.W.Frag} {mk : Log → NestedKey} {B : Hp} : ∀ {ls : List Log} {xs : List Ent}, Rows K mk B ls xs → ls.length = xs.length
  | _, _, .nil => rfl
  | _, _, .cons _ t => congrArg (· + 1) (rowz_len t)
theorem rows_dic {K : PySem.W.Frag} {mk : Log → NestedKey} {B : Hp} : ∀ {ls : List Log} {xs : List Ent}, Rows K mk B ls xs → Paired (fun (r : NestedKey × List PyData) (x : Ent) => x.1 = r.1 ∧ Dp K B (.ref x.2.1) r.1.data ∧ Dp K B (.ref x.2.2) (.tuple r.2)) (ls.map fun l => (mk l, l.map eS)) xs
  | _, _, .nil => .nil
  | _, _, .cons h t => .cons h (rows_dic t)
def flM (K : PySem.W.Frag) (P : Program) (w : World) (M : Mac) (mk : Log → NestedKey) (ah : Bool) (N : Nat) : Mp := ⟨fun v B => ∃ ls, FlDone M mk ah N ls ∧ (dicM K P w (ls.map fun l => (mk l, l.map eS))).p v B, fun s ⟨ls, h1, h2⟩ => ⟨ls, h1, (dicM _ _ _ _).mono s h2⟩⟩
/-- one round over the candidates -/
theorem fl_next {M : Mac} {mk : Log → NestedKey} {ah : Bool} {N : Nat} {ls0 edge later cs : List Log} (hk : MkOk M mk N) (I : FlI M mk ah ls0 edge) (hc : ∀ c, c ∈ cs ↔ ∃ l ∈ edge, ∃ x ∈ M.nms, c = ext ah l x) (nd : ((ls0 ++ later).map mk).Nodup) (hl : ∀ l ∈ later, l ∈ cs) (all : ∀ c ∈ cs, mk c ∈ (ls0 ++ later).map mk) :
    FlI M mk ah (ls0 ++ later) later := by
  have lc : ∀ l ∈ later, LN M l ∧ l.length ≤ ls0.length := fun l h => by
    obtain ⟨l0, h0, x, hx, rfl⟩ := (hc l).mp (hl l h)
    have := I.ln l0 (I.sub l0 h0)
    refine ⟨this.1.ext hx ah, ?_⟩
    rw [ext_len]
    omega
  refine ⟨nd, fun l h => ?_, fun l h => List.mem_append_right _ h, List.mem_append_left _ I.one, fun l h => ?_, by rw [List.length_append]; omega⟩
  · rcases List.mem_append.mp h with h | h
    · have := I.ln l h
      refine ⟨this.1, ?_⟩
      rw [List.length_append]
      omega
    · have := lc l h
      refine ⟨this.1, ?_⟩
      have : 0 < later.length := List.length_pos_of_mem h
      rw [List.length_append]
      omega
  · rcases List.mem_append.mp h with h | h
    · rcases I.clo l h with e | e
      · exact .inr fun x hx => all _ ((hc _).mpr ⟨l, e, x, hx, rfl⟩)
      · exact .inr fun x hx => by
          rw [List.map_append]
          exact List.mem_append_left _ (e x hx)
    · exact .inl h
/-! ### the walk -/
section
variable {X : Cx} {c : Expr} {body orelse : List Stmt} {D : Ends} {σ : L2.St} {H : Hp} {pos : Pos}
theorem s_ifW (h : wT X c σ H fun b H1 => if b = true then wB X body D σ H1 else wB X orelse D σ H1) : wS X (.If c body orelse pos) D σ H := s_of (ps_if pt_w pb_w pb_w) h
end
def decS : PyData → Str
  | .str x => x
  | _ => look
def decT : PyData → Log
  | .tuple ds => ds.map decS
  | _ => []
theorem dec_eTS (l : Log) : decT (eTS l) = l := by
  show (l.map eS).map decS = l
  rw [List.map_map]
  have : decS ∘ eS = id := rfl
  rw [this, List.map_id]
theorem perm_codes {es : List PyData} {l : List Log} (h : es.Perm (l.map eTS)) : ∃ l' : List Log, l'.Perm l ∧ es = l'.map eTS := by
  refine ⟨es.map decT, ?_, ?_⟩
  · have := h.map decT
    rw [List.map_map] at this
    have e : (decT ∘ eTS) = id := funext dec_eTS
    rwa [e, List.map_id] at this
  · rw [List.map_map]
    refine (List.map_id es).symm.trans (List.map_congr_left fun d hd => ?_)
    obtain ⟨c, _, rfl⟩ := List.mem_map.mp (h.mem_iff.mp hd)
    show eTS c = eTS (decT (eTS c))
    rw [dec_eTS]
theorem alike_eTS : ∀ (l m : Log), PySem.W.alike (eTS l) (eTS m) = true := fun l m => by
  have : ∀ (l m : Log), PySem.W.alikeAll (l.map eS) (m.map eS) = true := by
    intro l
    induction l with
    | nil => intro m; simp [PySem.W.alikeAll]
    | cons x l ih =>
      intro m
      cases m with
      | nil => simp [PySem.W.alikeAll]
      | cons y m => simp [PySem.W.alikeAll, PySem.W.alike, ih m]
  have e := this l m
  simpa [PySem.W.alike] using e
theorem depth_eTS (l : Log) : (eTS l).depth ≤ 10 := by
  have : ∀ l : Log, PyData.depthAll (l.map eS) = 0 := by
    intro l
    induction l with
    | nil => simp [PyData.depthAll]
    | cons x l ih => simp [PyData.depthAll, PyData.depth, ih]
  have e := this l
  simp [PyData.depth, e]
abbrev sFl : List Str := ["machine", "mark_of", "ahead", "found", "edge", "later", "log", "mark", "name"]
theorem scFl : FnScope sFl ["machine", "mark_of", "ahead"] (defScope (topS 38)) := ⟨rfl, rfl, rfl, by decide +kernel, rfl, by decide +kernel, by decide +kernel⟩
def cands (M : Mac) (ah : Bool) (edge : List Log) : List Log := edge.flatMap fun l => M.nms.map fun x => ext ah l x
theorem mem_cands {M : Mac} {ah : Bool} {edge : List Log} {c : Log} : c ∈ cands M ah edge ↔ ∃ l ∈ edge, ∃ x ∈ M.nms, c = ext ah l x := by
  unfold cands
  rw [List.mem_flatMap]
  exact exists_congr fun l => and_congr_right fun _ => by rw [List.mem_map]; exact exists_congr fun x => and_congr_right fun _ => eq_comm
section
variable {P : Program} {w : World} {K : PySem.W.Frag} {mg : Str → Option Value} {base : Heap} {C : Addr}
set_option maxHeartbeats 4000000 in
theorem fl_body (L : Bl mg) (T : Mth P w K mg base C) (z : Fz) (hr : Room 7 (fx P w K mg base sFl "first_logs" (topS 38) z).A) {vm : V} {f : Addr} {ah : Bool} {B : Hp} (sb : Same B z.H) {M : Mac} (hM : M.Ok) (hk2 : M.nms.length ≤ 2) (h1 : (machM K C M).p vm B) {mk : Log → NestedKey} {N : Nat} (hk : MkOk M mk N)
    (hcall : ∀ {e : Expr} {p1 p2 : Pos} (l : Log) (σ : L2.St) (B' : Hp), starEach [e] (fx P w K mg base sFl "first_logs" (topS 38) z).env = (false, eval e (fx P w K mg base sFl "first_logs" (topS 38) z).env) :: starEach [] (fx P w K mg base sFl "first_logs" (topS 38) z).env → σ[1]? = some (some (.ref f)) → Same B B' → LN M l → l.length ≤ 31 →
      EV (fx P w K mg base sFl "first_logs" (topS 38) z) e σ B' (dt K (eTS l)) → EV (fx P w K mg base sFl "first_logs" (topS 38) z) (.Call (.Name "mark_of" p1) [e] [] p2) σ B' (dt K (mk l).data)) :
    wB (fx P w K mg base sFl "first_logs" (topS 38) z) (defBody (topS 38)) (Dn B z.H (flM K P w M mk ah N)) (L2.start sFl [vm, .ref f, .bl ah]) z.H := by
  have hu : (fx P w K mg base sFl "first_logs" (topS 38) z).A.units + 65 < cLine := hr.u65
  have hsm := hk.small
  refine b_cons (s_of (ps_par rfl scFl.nd (i := 3) (j := 4) rfl rfl (by decide) rfl rfl pa_w rfl rfl) ?_)
  refine a_of (pa_cons pe_w (pa_cons pe_w pa_nil rfl) rfl) ?_
  refine w_disp1 hu fun d hd => ?_
  have bd : B d = none := same_no sb hd
  have x0 := (Nx.refl sb).hid (o := DO P w d []) hd bd
  obtain ⟨k0, hk0⟩ := hk.tup []
  refine hcall [] _ B rfl rfl (Same.refl B) (fun x hx => by cases hx) (Nat.zero_le _) (ev_tup (ds := []) ea_nil (Nat.zero_le _)) _ x0.s _ fun u B1 H1 x1 p1 => ?_
  refine EV.mono x1.b (ev_tup (X := fx P w K mg base sFl "first_logs" (topS 38) z) (ds := []) ea_nil (Nat.zero_le _) : EV _ _ _ B (dt K (.tuple []))) H1 x1.s _ fun v B2 H2 x2 p2 => ?_
  rw [hk0] at p1
  obtain ⟨a, as, rfl, qa, da⟩ := dp_t p1
  obtain ⟨l0, ls0, rfl, ql, dl⟩ := dp_t p2
  have pA : Dp K B2 (.ref a) (NestedKey.tup k0).data := dp_same x2.b (.tup qa da)
  have x02 := x0.trans (x1.trans x2)
  refine ⟨.tup k0, a, l0, rfl, rfl, (x1.trans x2).h _ _ upd_same, dp_same x2.s pA, by rw [← hk0]; exact hk.dep [], ?_⟩
  have bd2 : B2 d = none := (x1.trans x2).off upd_same bd
  have xf := x02.hid (o := DO P w d [(.tup k0, a, l0)]) hd bd2
  refine EV.mono (x1.b.trans x2.b) (ev_lst (X := fx P w K mg base sFl "first_logs" (topS 38) z) (ds := [eTS []]) (ea_cons (ev_tup (ds := []) ea_nil (Nat.zero_le _)) ea_nil) (show 1 ≤ 100000 by decide) : EV _ _ _ B (dt K (.list [eTS []]))) _ xf.s _ fun ev B3 H3 x3 p3 => ?_
  refine ⟨.ref d, ev, rfl, ?_⟩
  have xz := xf.trans x3
  refine b_cons (s_while PassesOwn.never (fun m σ' B' H' => ∃ (edv : V) (o5 o6 o7 : Option V) (xs : List Ent) (ls edge : List Log), σ' = [some vm, some (.ref f), some (.bl ah), some (.ref d), some edv, o5, o6, o7, none] ∧ Nx B z.H B' H' ∧ B' d = none ∧ H' d = some (DO P w d xs) ∧ Rows K mk B' ls xs ∧ Dp K B' edv (.list (edge.map eTS)) ∧ FlI M mk ah ls edge ∧ m = 2 * (N - ls.length) + (if edge = [] then 0 else 1))
    _ xz.s ⟨ev, none, none, none, [(.tup k0, a, l0)], [[]], [[]], rfl, xz, x3.off upd_same bd2, x3.h _ _ upd_same, .cons ⟨hk0.symm, by rw [hk0]; exact dp_same x3.b pA, dp_same x3.b p2⟩ .nil, p3, ⟨by simp, fun l hl => by rw [List.mem_singleton.mp hl]; exact ⟨fun x hx => (by cases hx), Nat.zero_lt_one⟩, fun l hl => hl, List.mem_singleton.mpr rfl, fun l hl => .inl hl, Nat.le_refl _⟩, rfl⟩
    fun m σ' B' H' sB ⟨edv, o5, o6, o7, xs, ls, edge, e, x', bd', hd', rw', pe, I, em⟩ => ?_)
  subst e
  have lsN := hk.le I.nd fun l hl => (I.ln l hl).1
  refine ⟨decide (0 < edge.length), ET.is (et_posL (X := fx P w K mg base sFl "first_logs" (topS 38) z) L.len (ev_var 4 rfl pe)) (by rw [List.length_map]), fun hb Ba Ha xa => ?_, fun hb Ba Ha xa => ?_⟩
  · have hpos : 0 < edge.length := by simpa using hb
    have bda := xa.off hd' bd'
    have hda := xa.h _ _ hd'
    have rwa' := rows_same xa.b rw'
    have pe := dp_same xa.b pe
    have hed := I.ned
    refine b_cons (s_new 5 scFl.nd fun q hq => ?_)
    have xA := x'.trans xa
    have zq : z.H q = none := same_no xA.h hq
    have bq : Ba q = none := same_no xA.s hq
    have xq := xA.hid (o := .lst []) zq bq
    have ndq : d ≠ q := fun e => by
      rw [← e] at hq
      rw [hda] at hq
      cases hq
    have hdq : upd Ha q (.lst []) d = some (DO P w d xs) := by rw [upd_ne ndq]; exact hda
    refine b_cons (s_forL (P := permM K ((cands M ah edge).map eTS)) PassesOwn.never rfl (ev_sortedD hu L.sorted (EV.is (ev_lc2 (own := [("log", 6), ("name", 8)]) (its := edge) (its1 := fun _ : Log => M.nms) (f := fun _ _ => true) (g := fun l x => eTS (ext ah l x)) (S1 := fun _ x => dt K (eS x)) [8] rfl scFl.nd (blkOk_by (N := sFl) (sc := defScope (topS 38)) (by decide +kernel)) (by simp) (sn_enc (sn_list (ev_var 4 rfl pe))) (by omega) (fun _ _ => by omega)
        fun l hl Bb sb' v' hv' => ⟨[some vm, some (.ref f), some (.bl ah), some (.ref d), some edv, some (.ref q), some v', o7, none], rfl, fun zz H' _ => tj_name 6 scFl.nd, fun zz => sn_enc (sn_tup (ev_names (X := bx (fx P w K mg base sFl "first_logs" (topS 38) z) _ zz) T (hr.mono (by decide)) (ev_var 0 rfl ((machM K C M).mono (xA.b.trans sb') h1)))), fun x hx Bc sc u hu' => ⟨[some vm, some (.ref f), some (.bl ah), some (.ref d), some edv, some (.ref q), some v', o7, some u], rfl, fun zz H' _ => tj_name 8 scFl.nd, fun zz => ets_nil, fun _ zz => ?_⟩⟩) ?_) ?_ ?_ ?_) xq.s fun sv Be He xe ⟨es, pes, ds⟩ => ?_)
    · have hl := I.ln l (I.sub l hl)
      refine ev_ite (k := ah) (et_val (ev_var 2 rfl (.bl ah))) (fun ea => ?_) (fun ea => ?_)
      · subst ea
        exact ev_tup (ds := eS x :: l.map eS) (EA.data (ea_cons (ev_var 8 rfl hu') (ea_starT (ev_var 6 rfl (dp_same sc hv')) ea_nil)) (by simp; rfl)) (by rw [List.length_cons, List.length_map]; omega)
      · subst ea
        refine EV.is (ev_tup (ds := l.map eS ++ [eS x]) (EA.data (ea_starT (ev_var 6 rfl (dp_same sc hv')) (ea_cons (ev_var 8 rfl hu') ea_nil)) (by simp; rfl)) (by rw [List.length_append, List.length_map, List.length_singleton]; omega)) ?_
        show PyData.tuple _ = eTS (l ++ [x])
        simp
    · refine congrArg PyData.list (Eq.trans ?_ (flat_eq2 (fun l => M.nms.map fun x => ext ah l x) eTS _))
      refine congrArg (fun F => List.flatMap F edge) (funext fun l => ?_)
      unfold F2
      rw [filter_all]
      exact mapc _ _ _
    · intro d1 h1' d2 h2'
      obtain ⟨c1, _, rfl⟩ := List.mem_map.mp h1'
      obtain ⟨c2, _, rfl⟩ := List.mem_map.mp h2'
      exact alike_eTS c1 c2
    · refine .inl fun d1 h1' => ?_
      obtain ⟨c1, hc1, rfl⟩ := List.mem_map.mp h1'
      obtain ⟨l, _, x, _, rfl⟩ := mem_cands.mp hc1
      have hlen := ext_len ah l x
      cases e : ext ah l x with
      | nil =>
        rw [e] at hlen
        cases hlen
      | cons y r => exact ⟨eS y, r.map eS, rfl⟩
    · intro d1 h1'
      obtain ⟨c1, _, rfl⟩ := List.mem_map.mp h1'
      exact depth_eTS c1
    obtain ⟨cs, pcs, rfl⟩ := perm_codes pes
    have hcs : ∀ c, c ∈ cs ↔ ∃ l ∈ edge, ∃ x ∈ M.nms, c = ext ah l x := fun c => pcs.mem_iff.trans mem_cands
    have bde := xe.off hdq bda
    have bqe := xe.off upd_same bq
    refine ⟨_, ds, fun i σ1 B1 H1 => ∃ (o6 o7 : Option V) (xs1 : List Ent) (later : List Log) (acc : List V), σ1 = [some vm, some (.ref f), some (.bl ah), some (.ref d), some edv, some (.ref q), o6, o7, none] ∧ Nx B z.H B1 H1 ∧ B1 d = none ∧ H1 d = some (DO P w d xs1) ∧ Rows K mk B1 (ls ++ later) xs1 ∧ B1 q = none ∧ H1 q = some (.lst acc) ∧ DpAll K B1 acc (later.map eTS) ∧
      ((ls ++ later).map mk).Nodup ∧ (∀ l ∈ later, l ∈ cs) ∧ ∀ c ∈ cs.take i, mk c ∈ (ls ++ later).map mk,
      ⟨o6, o7, xs, [], [], rfl, xq.trans xe, bde, xe.h _ _ hdq, by rw [List.append_nil]; exact rows_same xe.b rwa', bqe, xe.h _ _ upd_same, .nil, by rw [List.append_nil]; exact I.nd, (fun l hl => by cases hl), fun c hc => by cases hc⟩, ?_, ?_⟩
    · rintro i it σ1 B1 H1 v hi ⟨o6, o7, xs1, later, acc, rfl, x1, bd1, hd1, rw1, bq1, hq1, pa1, nd1, lc1, all1⟩ s1 hv
      rw [List.getElem?_map] at hi
      obtain ⟨c, hc, rfl⟩ : ∃ c, cs[i]? = some c ∧ it = eTS c := by
        cases e : cs[i]? with
        | none =>
          rw [e] at hi
          cases hi
        | some c =>
          rw [e] at hi
          exact ⟨c, rfl, by injection hi with hi; exact hi.symm⟩
      have hcm : c ∈ cs := List.mem_of_getElem? hc
      obtain ⟨l1, hl1, x1', hx1, ec⟩ := (hcs c).mp hcm
      have hln := I.ln l1 (I.sub l1 hl1)
      have hcl : c.length ≤ 31 := by
        rw [ec, ext_len]
        omega
      have hcn : LN M c := by
        rw [ec]
        exact hln.1.ext hx1 ah
      refine ⟨_, tj_name 6 scFl.nd, ?_⟩
      refine b_cons (s_set (P := dt K (mk c).data) 7 scFl.nd s1 (hcall c _ B1 rfl rfl x1.b hcn hcl (ev_var 6 rfl hv)) fun mv B2 H2 x2 p2 => ?_)
      obtain ⟨ks, hks⟩ := hk.tup c
      have p2 : Dp K B2 mv (mk c).data := p2
      rw [hks] at p2
      have hd2 := x2.h _ _ hd1
      have bd2 := x2.off hd1 bd1
      have hq2 := x2.h _ _ hq1
      have bq2 := x2.off hq1 bq1
      have rw2 := rows_same x2.b rw1
      have pa2 := dpa_same x2.b pa1
      have hv2 := dp_same x2.b hv
      have x12 := x1.trans x2
      have keys := rows_keys rw2
      have tk : cs.take (i + 1) = cs.take i ++ [c] := by rw [List.take_add_one, hc]; rfl
      refine b_cons (s_ifW (t_of (pt_cmpR (op_notInN hu) pe_w pe_w rfl) ?_))
      refine (ev_var (X := fx P w K mg base sFl "first_logs" (topS 38) z) (P := dt K (NestedKey.tup ks).data) 7 rfl p2) H2 x2.s _ fun mv3 B3 H3 x3 p3 => ?_
      refine EV.mono x3.b (ev_var (X := fx P w K mg base sFl "first_logs" (topS 38) z) (P := eqM (.ref d)) 3 rfl rfl : EV _ _ _ B2 _) H3 x3.s _ fun dv B4 H4 x4 p4 => ?_
      have p4 : dv = .ref d := p4
      subst p4
      obtain ⟨a3, as3, rfl, q3, da3⟩ := dp_t p3
      have x24 := x3.trans x4
      have rw4 := rows_same x24.b rw2
      have hd4 := x24.h _ _ hd2
      have bd4 := x24.off hd2 bd2
      have hq4 := x24.h _ _ hq2
      have bq4 := x24.off hq2 bq2
      have x14 := x12.trans x24
      refine ⟨d, xs1, .tup ks, a3, rfl, rfl, hd4, (rows_in hk rw4).mono x4.s, dp_same x4.s (dp_same x4.b (.tup q3 da3)), by rw [← hks]; exact hk.dep c, _, rfl, ?_⟩
      by_cases hin : NestedKey.tup ks ∈ xs1.map (·.1)
      · rw [decide_eq_true hin]
        refine iteF (b_nil (b_nil ⟨B4, x2.b.trans x24.b, x4.s, some v, some mv, xs1, later, acc, rfl, x14, bd4, hd4, rw4, bq4, hq4, dpa_same x24.b pa2, nd1, lc1, fun c' hc' => ?_⟩))
        rw [tk] at hc'
        rcases List.mem_append.mp hc' with h | h
        · exact all1 c' h
        · rw [List.mem_singleton.mp h, hks, ← keys]
          exact hin
      · rw [decide_eq_false hin]
        refine iteT ?_
        have xl : xs1.length ≤ 100000 := by
          have e1 := rowz_len rw2
          have := hk.le nd1 fun l hl => by
            rcases List.mem_append.mp hl with h | h
            · exact (I.ln l h).1
            · obtain ⟨l2, h2, x2, hx2, rfl⟩ := (hcs l).mp (lc1 l h)
              exact (I.ln l2 (I.sub l2 h2)).1.ext hx2 ah
          omega
        refine b_cons (s_putN (dv := c.map eS) (ks := ks) (xs := xs1) hu x4.s (ev_var 6 rfl (dp_same x24.b hv2)) (ev_var 3 rfl rfl) (ev_var 7 rfl (dp_same x24.b p2)) hd4 bd4 (rows_in hk rw4) (by rw [← hks]; exact hk.dep c) hin xl fun a l B5 H5 x5 pk pl => ?_)
        have hd5 : (upd H5 d (DO P w d (xs1 ++ [(.tup ks, a, l)]))) d = some (DO P w d (xs1 ++ [(.tup ks, a, l)])) := upd_same
        have hq5 : (upd H5 d (DO P w d (xs1 ++ [(.tup ks, a, l)]))) q = some (.lst acc) := by rw [upd_ne (Ne.symm ndq)]; exact x5.h _ _ hq4
        have bd5 := x5.off hd4 bd4
        have bq5 := x5.off hq4 bq4
        have zd : z.H d = none := hd
        have xh := (x14.trans x5).hid (o := DO P w d (xs1 ++ [(.tup ks, a, l)])) zd bd5
        have al : acc.length < 100000 := by
          have e1 := dpa_len pa2
          rw [List.length_map] at e1
          have e2 := rowz_len rw2
          rw [List.length_append] at e2
          omega
        refine b_cons (s_app 5 xh.s rfl hq5 al (ev_var (P := dt K (eTS c)) 6 rfl (dp_same x5.b (dp_same x24.b hv2))) fun u B6 H6 x6 p6 => ?_)
        have hd6 := x6.h _ _ hd5
        have bd6 := x6.off hd5 bd5
        have hq6 := x6.h _ _ hq5
        have bq6 := x6.off hq5 bq5
        have xi := (xh.trans x6).hid (o := .lst (acc ++ [u])) zq bq6
        refine b_nil (b_nil ⟨B6, x2.b.trans (x24.b.trans (x5.b.trans x6.b)), xi.s, some v, some mv, xs1 ++ [(.tup ks, a, l)], later ++ [c], acc ++ [u], rfl, xi, bd6, by rw [upd_ne ndq]; exact hd6, ?_, bq6, upd_same, ?_, ?_, ?_, ?_⟩)
        · rw [← List.append_assoc]
          exact rows_snoc ⟨hks.symm, by rw [hks]; exact dp_same x6.b pk, dp_same x6.b pl⟩ (rows_same (x5.b.trans x6.b) rw4)
        · rw [List.map_append]
          exact dpa_snoc (dpa_same (x24.b.trans (x5.b.trans x6.b)) pa2) p6
        · rw [← List.append_assoc, List.map_append]
          rw [keys] at hin
          refine List.nodup_append.mpr ⟨nd1, by simp, fun a ha b hb e => ?_⟩
          rw [List.map_singleton, List.mem_singleton] at hb
          rw [e, hb, hks] at ha
          exact hin ha
        · intro l' hl'
          rcases List.mem_append.mp hl' with h | h
          · exact lc1 l' h
          · rw [List.mem_singleton.mp h]
            exact hcm
        · intro c' hc'
          rw [← List.append_assoc, List.map_append]
          rw [tk] at hc'
          rcases List.mem_append.mp hc' with h | h
          · exact List.mem_append_left _ (all1 c' h)
          · rw [List.mem_singleton.mp h]
            exact List.mem_append_right _ (by simp)
    · rintro σ1 B1 H1 s1 ⟨o6, o7, xs1, later, acc, rfl, x1, bd1, hd1, rw1, bq1, hq1, pa1, nd1, lc1, all1⟩
      rw [List.length_map, List.take_length] at all1
      have nI := fl_next hk I hcs nd1 lc1 all1
      have xs' := x1.see zq bq1 hq1
      have nq := same_new (o := HO.lst acc) bq1
      have pl : Dp K (upd B1 q (.lst acc)) (.ref q) (.list (later.map eTS)) := .lst (.inl (.inl upd_same)) (dpa_same nq pa1)
      have bdn : upd B1 q (.lst acc) d = none := by rw [upd_ne ndq]; exact bd1
      refine b_cons (s_set (P := dt K (.list (later.map eTS))) 4 scFl.nd xs'.s (ev_var 5 rfl pl) fun v2 B2 H2 x2 p2 => b_nil ⟨_, B2, ?_, x2.s, v2, some (.ref q), o6, o7, xs1, ls ++ later, later, rfl, xs'.trans x2, x2.off hd1 bdn, x2.h _ _ hd1, rows_same (nq.trans x2.b) rw1, p2, nI, rfl⟩)
      have he0 : ¬ edge = [] := fun e => by
        rw [e] at hpos
        exact absurd hpos (Nat.lt_irrefl 0)
      rw [em, if_neg he0]
      have hN := hk.le nI.nd fun l hl => (nI.ln l hl).1
      by_cases e : later = []
      · rw [if_pos e, e, List.append_nil]
        omega
      · rw [if_neg e]
        have : 0 < later.length := List.length_pos_iff.mpr e
        rw [List.length_append] at hN ⊢
        omega
  · have he : edge = [] := List.eq_nil_of_length_eq_zero (by
      have : ¬ 0 < edge.length := by simpa using hb
      omega)
    have hda := xa.h _ _ hd'
    have bda := xa.off hd' bd'
    refine b_cons (s_freeze hda fun o => ?_)
    have xA := x'.trans xa
    have xh := xA.hid (o := .frz o (DO P w d xs)) hd bda
    have xs' := xh.see hd bda upd_same
    have nq := same_new (o := HO.frz o (DO P w d xs)) bda
    refine s_retD xs' (ev_var 3 rfl ?_)
    refine ⟨ls, ⟨fun l hl => ⟨(I.ln l hl).1, by have := (I.ln l hl).2; omega⟩, I.one, fun l hl => ?_, lsN⟩, d, o, xs, rfl, upd_same, ?_⟩
    · rcases I.clo l hl with h | h
      · rw [he] at h
        cases h
      · exact h
    · exact rows_dic (rows_same nq (rows_same xa.b rw'))
end
end K7
/-! min of a list of two by a key. -/
namespace K7
open PySem PySem.Spec PyProof.Rows L2
section
variable {X : Cx} {pins : List (Addr × Obj)} {σ : L2.St} {H : Hp} {s : Shared}
theorem fp_next {b : Addr} {H' : Hp} (f : FpOk X pins H b) (h : H' b = none) : FpOk X pins H' b := ⟨h, f.2⟩
theorem turned1 {b : Addr} {h' : Heap} (t : Nat) (I : Inv X pins σ H s) (f : FpOk X pins H b) (k : ∀ c o, c ≠ b → s.heap.get? c = some o → h'.get? c = some o) : Inv X pins σ H { s with heap := h', toks := t } := by
  obtain ⟨f0, f1, f2, f3, f4, f5⟩ := f
  exact I.turned k f0 f1 f3 f4 f5
theorem pin2 {b c : Addr} {ob oc : Obj} (I : Inv X pins σ H s) (f : FpOk X pins H b) (g : FpOk X pins H c) (hb : s.heap.get? b = some ob) (hc : s.heap.get? c = some oc) (nb : ∀ v, ob.data ≠ .cell v) (nc : ∀ v, oc.data ≠ .cell v) : Inv X (pins ++ [(b, ob), (c, oc)]) σ H s :=
  I.pins_of fun p hp => by
    rcases List.mem_append.mp hp with h | h
    · exact I.pin p (List.mem_append_right _ h)
    · rcases List.mem_cons.mp h with e | h
      · subst e
        exact ⟨hb, f.1, f.2.1, f.2.2.1, nb⟩
      · have e := List.mem_singleton.mp h
        subst e
        exact ⟨hc, g.1, g.2.1, g.2.2.1, nc⟩
theorem pinned {b : Addr} {ob : Obj} {more : List (Addr × Obj)} (I : Inv X (pins ++ more) σ H s) (h : (b, ob) ∈ more) : s.heap.get? b = some ob ∧ H b = none :=
  let q := I.pin (b, ob) (List.mem_append_right _ (List.mem_append_right _ h)); ⟨q.1, q.2.1⟩
theorem run_rawE {g : Addr} {k : Nat} {sp : Sp} {Q : VK} {us : List Value} {vs : List V} {E' : Value → Shared → Prop} (F : FnR X.prog X.w X.K X.mg X.base CX0 k g sp) (hr : Room (k + 1) X.A) (I : Inv X pins σ H s) (r : Vals vs us) (h : sp vs H Q E0) :
    wpAny (model X.prog X.w) X.A.in1 (call (.ref g) us) (EP X pins σ Q) E' s := by
  refine wpAny_call (codeAny_mono (F X.A.in1 X.stack s H us vs Q E0 hr.in1 (Env0.in1 I.env0) r h) fun r s' hq => ?_)
  cases r with
  | error e => exact hq.elim
  | ok fl =>
    cases fl with
    | ret u => exact I.after hq
    | next => exact hq.elim
    | brk => exact hq.elim
    | cont => exact hq.elim
set_option maxHeartbeats 4000000 in
theorem min_two {a f : Addr} {x0 x1 : V} {k : Nat} {sp : Sp} {d0 d1 : PyData} {B : Hp} {Q : VK} (I : Inv X pins σ H s) (hh : X.A.handled = none) (hu : X.A.units + 65 < cLine) (sB : Same B H) (hl : SqL X.K B a [x0, x1]) (Fn : FnR X.prog X.w X.K X.mg X.base CX0 k f sp) (hr : Room (k + 1) X.A)
    (h0 : ∀ B', Same B B' → RS sp [x0] B' (dt X.K d0)) (h1 : ∀ B', Same B B' → RS sp [x1] B' (dt X.K d1)) (al : PySem.W.alike d1 d0 = true) (hn : d1 ≠ .none) (hd : d1.depth ≤ 10) (hQ : ∀ v B1 H1, Nx B H B1 H1 → (v = x0 ∨ v = x1) → Q v H1) :
    wpAny (model X.prog X.w) X.A (call (.builtin "min") [.ref a] [(Str.ofString "key", .ref f)]) (EP X pins σ Q) X.xe s := by
  have hl := same_l sB hl
  obtain ⟨its, rv, p, hz⟩ := I.list hl
  obtain ⟨u0, u1, rfl⟩ : ∃ u0 u1, its = [u0, u1] := by
    have := rv.length
    match its, this with
    | [u0, u1], _ => exact ⟨u0, u1, rfl⟩
  have r0 : RelV x0 u0 := by cases rv; assumption
  have r1 : RelV x1 u1 := by cases rv with | cons a b => cases b; assumption
  have name : (toString "min" ++ toString ".loop" : String) = "min.loop" := by decide
  have h3 : X.A.in1.handled = none := by simp [hh]
  have la : a < s.heap.objs.size := by
    obtain ⟨o, e, _⟩ := p.isList
    exact Heap.lt_size e
  refine PyProof.Rows.kmk_tree PySem.F.kind_min PySem.F.plain_min PySem.F.entry_min (PyProof.Rows.kmk_min_key _ _) ?_
  show wpAny _ X.A.in1 (Builtin.Builtins.bindParams "min" ["key", "default"] 0 ⟨[], [(Str.ofString "key", .ref f)]⟩ >>= _) _ _ s
  refine wpAny_bind (wpAny_of_eq (show Builtin.Builtins.bindParams "min" ["key", "default"] 0 ⟨[], [(Str.ofString "key", .ref f)]⟩ = pure [some (.ref f), Option.none] from rfl) ?_)
  refine wpAny_bind (wpAny_pure ?_)
  refine wpAny_bind (wpAny_pyIter_list p.isList ?_)
  generalize hoI : ({ cls := .type "list_iterator", data := .fields #[.ref a, .int 0 0] } : Obj) = oI
  have freeI : oI.isFreed = false := by subst hoI; rfl
  refine wpAny_bind (wpAny_newObj_type ?_)
  generalize hoS : ({ cls := .type "list", data := .seq #[] 0 } : Obj) = oS
  have freeS : oS.isFreed = false := by subst hoS; rfl
  have sI : (s.heap.push oI).objs.size = s.heap.objs.size + 1 := Heap.size_push ..
  have eS : ({ s with heap := s.heap.push oI } : Shared).heap.objs.size = s.heap.objs.size + 1 := sI
  rw [name, eS]
  generalize hI : s.heap.objs.size = Ia at *
  have I2 : Inv X pins σ H { s with heap := (s.heap.push oI).push oS } := I.kept (t' := s.toks) fun b o e => Heap.get?_push_of_some _ (Heap.get?_push_of_some _ e)
  have fI : FpOk X pins H Ia := I.fpOk (by rw [hI]; exact Nat.le_refl _) (I.hok.fresh (by rw [hI]; exact Nat.le_refl _))
  have fS : FpOk X pins H (Ia + 1) := I.fpOk (by rw [hI]; exact Nat.le_succ _) (I.hok.fresh (by rw [hI]; exact Nat.le_succ _))
  have gI : ((s.heap.push oI).push oS).get? Ia = some oI := Heap.get?_push_of_some _ (by rw [← hI]; exact Heap.get?_push_size _ freeI)
  have gS : ((s.heap.push oI).push oS).get? (Ia + 1) = some oS := by
    have q := Heap.get?_push_size (s.heap.push oI) freeS
    rwa [sI] at q
  have ne : Ia + 1 ≠ Ia := Nat.succ_ne_self _
  have neA : a ≠ Ia := Nat.ne_of_lt la
  have neA2 : a ≠ Ia + 1 := Nat.ne_of_lt (Nat.lt_succ_of_lt la)
  -- the end
  have fin : ∀ (s9 : Shared) (H9 : Hp) (B9 : Hp) (vb kb : Value) (c : Nat) (xb : V), Inv X pins σ H9 s9 → Nx B H B9 H9 → FpOk X pins H9 Ia → FpOk X pins H9 (Ia + 1) → s9.heap.IsListIter Ia a 2 → s9.heap.get? (Ia + 1) = some { cls := .type "list", dict := Option.none, data := .seq #[vb, kb] c, slots := #[] } → RelV xb vb → (xb = x0 ∨ xb = x1) →
      codeAny (model X.prog X.w) X.A (.builtin "min.loop" ⟨[.ref Ia, .ref f, .ref (Ia + 1)], []⟩) (fun r s' => match r with | .ok (.ret v) => EP X pins σ Q v s' | .ok _ => False | .error e => X.xe e s') s9 := by
    intro s9 H9 B9 vb kb c xb J x9 f9 g9 it9 S9 rb hb
    refine codeAny_builtin PySem.F.entry_min_loop ?_
    rw [Around.under_plainId PySem.F.plain_min_loop _]
    show wpAny _ X.A.in1 (seqItems? (.ref (Ia + 1)) >>= _) _ _ s9
    refine wpAny_bind (wpAny_seqItems S9 rfl ?_)
    show wpAny _ X.A.in1 (tryCatch (pyNext (.ref Ia)) _ >>= _) _ _ s9
    have hl9 := same_l x9.h hl
    obtain ⟨its9, rv9, p9, _⟩ := J.list hl9
    have n9 := rv9.length
    refine wpAny_bind (wpAny_tryCatch (wpAny_pyNext_list_end h3 it9 p9.isList (by rw [List.getElem?_toArray]; exact List.getElem?_eq_none (by rw [← n9]; exact Nat.le_refl _)) fun h' eb => ?_))
    have S9' := eb (Ia + 1) _ ne S9
    show wpAny _ X.A.in1 (updateSeq (Ia + 1) (fun _ => #[]) >>= _) _ _ _
    refine wpAny_bind ?_
    refine wpAny_updateSeq S9' rfl (wpAny_bind (wpAny_letGo (wpAny_pure ?_)))
    have J1 := turned1 (h' := h') s9.toks J f9 fun c o hc e => eb c o hc e
    have J2 := turned1 (h' := h'.update (Ia + 1) (Obj.mapSeq fun _ => (#[] : Array Value))) s9.toks J1 g9 fun c o hc e => (Heap.get?_update_other _ _ (Ne.symm hc)).trans e
    exact ⟨xb, H9, J2, rb, hQ xb B9 H9 x9 hb⟩
  have noC : ∀ {u : Value} {vs : Array Value} {n : Nat}, ∀ v, (({ cls := .type "list", dict := Option.none, data := .seq vs n, slots := #[] } : Obj)).data ≠ .cell v := fun {u vs n} v e => by cases e
  -- the first item
  refine wpAny_pure ⟨plainId_quiet PySem.F.plain_min_loop _, ?_⟩
  refine codeAny_builtin PySem.F.entry_min_loop ?_
  rw [Around.under_plainId PySem.F.plain_min_loop _]
  have gS' : ((s.heap.push oI).push oS).get? (Ia + 1) = some { cls := .type "list", dict := Option.none, data := .seq #[] 0, slots := #[] } := by rw [gS, ← hoS]
  have it0 : ((s.heap.push oI).push oS).IsListIter Ia a 0 := ⟨oI, gI, by rw [← hoI], by rw [← hoI]; rfl⟩
  show wpAny _ X.A.in1 (seqItems? (.ref (Ia + 1)) >>= _) _ _ { s with heap := (s.heap.push oI).push oS }
  refine wpAny_bind (wpAny_seqItems gS' rfl ?_)
  show wpAny _ X.A.in1 (tryCatch (pyNext (.ref Ia)) _ >>= _) _ _ { s with heap := (s.heap.push oI).push oS }
  obtain ⟨its2, rv2, p2, _⟩ := I2.list hl
  obtain ⟨w0, w1, rfl⟩ : ∃ w0 w1, its2 = [w0, w1] := by
    have := rv2.length
    match its2, this with
    | [w0, w1], _ => exact ⟨w0, w1, rfl⟩
  have r0' : RelV x0 w0 := by cases rv2; assumption
  refine wpAny_bind (wpAny_tryCatch (wpAny_pyNext_list_item it0 p2.isList (x := w0) rfl fun h4 it1 sb4 => ?_))
  have J4 := turned1 (h' := h4) s.toks I2 fI fun c o hc e => (sb4.2 c hc).trans e
  have S4 : h4.get? (Ia + 1) = _ := (sb4.2 (Ia + 1) ne).trans gS'
  obtain ⟨oI4, gI4, cI4, dI4⟩ := id it1
  have P4 := pin2 J4 fI fS gI4 S4 (fun v e => by rw [dI4] at e; cases e) fun v e => by cases e
  show wpAny _ X.A.in1 (tryCatch (holding [w0] (call (.ref f) [w0])) _ >>= _) _ _ _
  refine wpAny_bind (wpAny_tryCatch (wpAny_holding (thn (run_rawE (vs := [x0]) Fn hr P4 (.cons r0' .nil) (h0 B (Same.refl B) H sB (fun v H1 => ∃ B1, Nx B H B1 H1 ∧ Dp X.K B1 v d0) fun v B1 H1 x1 pv => ⟨B1, x1, pv⟩)) fun k0 s5 ⟨v5, H5, P5, q5, B5, x5, p5⟩ => ?_)))
  have J5 := P5.unpinned
  obtain ⟨gI5, nI5⟩ := pinned P5 (List.mem_cons_self ..)
  obtain ⟨gS5, nS5⟩ := pinned P5 (List.mem_cons_of_mem _ (List.mem_singleton.mpr rfl))
  have fI5 := fp_next fI nI5
  have fS5 := fp_next fS nS5
  show wpAny _ X.A.in1 (updateSeq (Ia + 1) (fun _ => #[w0, k0]) >>= _) _ _ _
  refine wpAny_bind ?_
  refine wpAny_updateSeq gS5 rfl ?_
  rw [name]
  have J6 := turned1 (h' := s5.heap.update (Ia + 1) (Obj.mapSeq fun _ => #[w0, k0])) s5.toks J5 fS5 fun c o hc e => (Heap.get?_update_other _ _ (Ne.symm hc)).trans e
  obtain ⟨c6, S6⟩ : ∃ c, (s5.heap.update (Ia + 1) (Obj.mapSeq fun _ => #[w0, k0])).get? (Ia + 1) = some { cls := .type "list", dict := Option.none, data := .seq #[w0, k0] c, slots := #[] } := ⟨_, Heap.get?_update_self _ gS5 rfl⟩
  have it6 : (s5.heap.update (Ia + 1) (Obj.mapSeq fun _ => #[w0, k0])).IsListIter Ia a 1 := ⟨oI4, (Heap.get?_update_other _ _ ne).trans gI5, cI4, dI4⟩
  -- the second item
  refine wpAny_pure ⟨plainId_quiet PySem.F.plain_min_loop _, ?_⟩
  refine codeAny_builtin PySem.F.entry_min_loop ?_
  rw [Around.under_plainId PySem.F.plain_min_loop _]
  show wpAny _ X.A.in1 (seqItems? (.ref (Ia + 1)) >>= _) _ _ { s5 with heap := s5.heap.update (Ia + 1) (Obj.mapSeq fun _ => #[w0, k0]) }
  refine wpAny_bind (wpAny_seqItems S6 rfl ?_)
  show wpAny _ X.A.in1 (tryCatch (pyNext (.ref Ia)) _ >>= _) _ _ { s5 with heap := s5.heap.update (Ia + 1) (Obj.mapSeq fun _ => #[w0, k0]) }
  have hl5 := same_l x5.h hl
  obtain ⟨its6, rv6, p6, _⟩ := J6.list hl5
  obtain ⟨y0, y1, rfl⟩ : ∃ y0 y1, its6 = [y0, y1] := by
    have := rv6.length
    match its6, this with
    | [y0, y1], _ => exact ⟨y0, y1, rfl⟩
  have r1' : RelV x1 y1 := by cases rv6 with | cons a b => cases b; assumption
  refine wpAny_bind (wpAny_tryCatch (wpAny_pyNext_list_item it6 p6.isList (x := y1) rfl fun h7 it7 sb7 => ?_))
  have J7 := turned1 (h' := h7) s5.toks J6 fI5 fun c o hc e => (sb7.2 c hc).trans e
  have S7 : h7.get? (Ia + 1) = _ := (sb7.2 (Ia + 1) ne).trans S6
  obtain ⟨oI7, gI7, cI7, dI7⟩ := id it7
  have P7 := pin2 J7 fI5 fS5 gI7 S7 (fun v e => by rw [dI7] at e; cases e) fun v e => by cases e
  show wpAny _ X.A.in1 (tryCatch (holding [y1] (call (.ref f) [y1])) _ >>= _) _ _ _
  refine wpAny_bind (wpAny_tryCatch (wpAny_holding (thn (run_rawE (vs := [x1]) Fn hr P7 (.cons r1' .nil) (h1 B5 x5.b H5 x5.s (fun v H1 => ∃ B1, Nx B5 H5 B1 H1 ∧ Dp X.K B1 v d1) fun v B1 H1 x1 pv => ⟨B1, x1, pv⟩)) fun k1 s8 ⟨v8, H8, P8, q8, B8, x8, p8⟩ => ?_)))
  have J8 := P8.unpinned
  obtain ⟨gI8, nI8⟩ := pinned P8 (List.mem_cons_self ..)
  obtain ⟨gS8, nS8⟩ := pinned P8 (List.mem_cons_of_mem _ (List.mem_singleton.mpr rfl))
  have fI8 := fp_next fI5 nI8
  have fS8 := fp_next fS5 nS8
  obtain ⟨as0, rd0⟩ := Dp.reads J8 _ _ _ (dp_same (x8.b.trans x8.s) p5) q5
  obtain ⟨as1, rd1⟩ := Dp.reads J8 _ _ _ (dp_same x8.s p8) q8
  show wpAny _ X.A.in1 (tryCatch (holding [y1, k1] (richCompare .Lt k1 k0 >>= _)) _ >>= _) _ _ _
  have room : X.A.in1.units + min d1.depth d0.depth < cLine := by
    have : X.A.in1.units = X.A.units + 1 := rfl
    have := Nat.min_le_left d1.depth d0.depth
    omega
  refine wpAny_bind (wpAny_tryCatch (wpAny_holding (wpAny_bind (PySem.W.lt_data rd1 rd0 al hn room ?_))))
  refine wpAny_bind (wpAny_holding (wpAny_truthy_bool ?_))
  refine wpAny_bind (wpAny_letGo (wpAny_pure ?_))
  have xx := x5.trans x8
  cases hb : PySem.W.dataLt d1 d0 with
  | true =>
    simp only [if_true]
    refine wpAny_bind ?_
    refine wpAny_updateSeq gS8 rfl (wpAny_bind (wpAny_letGo ?_))
    rw [name]
    have J9 := turned1 (h' := s8.heap.update (Ia + 1) (Obj.mapSeq fun _ => #[y1, k1])) s8.toks J8 fS8 fun c o hc e => (Heap.get?_update_other _ _ (Ne.symm hc)).trans e
    obtain ⟨c9, S9⟩ : ∃ c, (s8.heap.update (Ia + 1) (Obj.mapSeq fun _ => #[y1, k1])).get? (Ia + 1) = some { cls := .type "list", dict := Option.none, data := .seq #[y1, k1] c, slots := #[] } := ⟨_, Heap.get?_update_self _ gS8 rfl⟩
    exact wpAny_pure ⟨plainId_quiet PySem.F.plain_min_loop _, fin _ H8 B8 y1 k1 c9 x1 J9 xx fI8 fS8 ⟨oI7, (Heap.get?_update_other _ _ ne).trans gI8, cI7, dI7⟩ S9 r1' (.inr rfl)⟩
  | false =>
    simp only [Bool.false_eq_true, if_false]
    refine wpAny_bind (wpAny_letGo ?_)
    rw [name]
    exact wpAny_pure ⟨plainId_quiet PySem.F.plain_min_loop _, fin _ H8 B8 w0 k0 c6 x0 J8 xx fI8 fS8 ⟨oI7, gI8, cI7, dI7⟩ gS8 r0' (.inl rfl)⟩
end
end K7
/-! The plain law, second part: what goes, what is left. -/
namespace K7
open PySem
/-! ### ways -/
theorem way_cons (M : Mac) (h : Nat) (x : Str) (l : Log) : way M h (x :: l) = if x = look then (M.sh.getD h 0 :: (way M h l).1, (way M h l).2) else way M (stp M x h) l := rfl
theorem way_app (M : Mac) : ∀ (l m : Log) (h : Nat), way M h (l ++ m) = ((way M h l).1 ++ (way M (way M h l).2 m).1, (way M (way M h l).2 m).2)
  | [], m, h => rfl
  | x :: l, m, h => by
    rw [List.cons_append, way_cons, way_cons]
    by_cases e : x = look
    · rw [if_pos e, if_pos e, way_app M l m h]
      rfl
    · rw [if_neg e, if_neg e, way_app M l m]
theorem markedAt_app (M : Mac) (l m : Log) (h : Nat) : markedAt M (l ++ m) h = ((way M h l).1 ++ (markedAt M m (way M h l).2).1, (markedAt M m (way M h l).2).2) := by
  unfold markedAt
  rw [way_app]
theorem split_at {l : Log} {k : Nat} (h : k < l.length) : l = l.take k ++ l.getD k look :: l.drop (k + 1) := by
  have := List.take_append_drop k l
  rw [drop_at (getD_some look h)] at this
  exact this.symm
theorem zip_keep {ps : List Nat} (l : Log) (n : Nat) (h : ∀ p ∈ ps, p < n) : ((l.zipIdx n).filter fun q => !decide (q.2 ∈ ps)).map (·.1) = l := by
  have : (l.zipIdx n).filter (fun q => !decide (q.2 ∈ ps)) = l.zipIdx n := by
    refine List.filter_eq_self.mpr fun q hq => ?_
    obtain ⟨a, b⟩ := q
    have h1 := (List.mem_zipIdx hq).1
    have : b ∉ ps := fun hb => by
      have := h b hb
      omega
    simp [this]
  rw [this]
  simp
/-- what is left out ahead of v leaves v -/
theorem without_app {u v : Log} {ps : List Nat} (h : ∀ p ∈ ps, p < u.length) : without (u ++ v) ps = without u ps ++ v := by
  unfold without
  rw [List.zipIdx_append, List.filter_append, List.map_append, zip_keep v _ (by simpa using h)]
theorem without_cons {u v : Log} {x : Str} {ps : List Nat} (h : ∀ p ∈ ps, p < u.length) : without (u ++ x :: v) (ps ++ [u.length]) = without u ps ++ v := by
  unfold without
  rw [List.zipIdx_append, List.filter_append, List.map_append, List.zipIdx_cons, List.filter_cons]
  have e0 : (!decide (0 + u.length ∈ ps ++ [u.length])) = false := by simp
  rw [if_neg (by rw [e0]; simp)]
  congr 1
  · refine congrArg (List.map _) (List.filter_congr fun q hq => ?_)
    obtain ⟨a, b⟩ := q
    have h1 := (List.mem_zipIdx hq).2.1
    have : b ≠ u.length := by omega
    simp [this]
  · refine zip_keep v _ fun p hp => ?_
    rcases List.mem_append.mp hp with hp | hp
    · have := h p hp
      omega
    · rw [List.mem_singleton.mp hp]
      omega
theorem without_none (l : Log) : without l [] = l := zip_keep l 0 fun p hp => by cases hp
theorem without_one {l : Log} {k : Nat} (h : k < l.length) : without l [k] = l.take k ++ l.drop (k + 1) := by
  have e := split_at h
  have ht : (l.take k).length = k := by rw [List.length_take]; omega
  have := without_cons (u := l.take k) (v := l.drop (k + 1)) (x := l.getD k look) (ps := []) (fun p hp => by cases hp)
  rw [← e, ht, List.nil_append, without_none] at this
  exact this
section
variable {M : Mac}
/-- one deed left out: the marks are the same just where it may go -/
theorem may_iff (hM : M.Ok) {l : Log} (hl : LogOk M l) {k : Nat} (hk : k < l.length) (hne : l.getD k look ≠ look) {st : List Nat} (hst : ∀ i ∈ st, i < M.n) : mayGo M l k st = true ↔ ∀ s ∈ st, markedAt M l s = markedAt M (without l [k]) s := by
  have key : ∀ s, markedAt M l s = markedAt M (without l [k]) s ↔ markedAt M (l.drop (k + 1)) (stp M (l.getD k look) (way M s (l.take k)).2) = markedAt M (l.drop (k + 1)) (way M s (l.take k)).2 := fun s => by
    rw [without_one hk, markedAt_app]
    have e : markedAt M l s = ((way M s (l.take k)).1 ++ (markedAt M (l.getD k look :: l.drop (k + 1)) (way M s (l.take k)).2).1, (markedAt M (l.getD k look :: l.drop (k + 1)) (way M s (l.take k)).2).2) := by
      rw [← markedAt_app, ← split_at hk]
    rw [e]
    have e2 : markedAt M (l.getD k look :: l.drop (k + 1)) (way M s (l.take k)).2 = markedAt M (l.drop (k + 1)) (stp M (l.getD k look) (way M s (l.take k)).2) := by
      unfold markedAt
      rw [way_cons, if_neg hne]
    rw [e2]
    constructor
    · intro h
      have h1 := congrArg Prod.fst h
      have h2 := congrArg Prod.snd h
      exact Prod.ext (List.append_cancel_left h1) h2
    · intro h
      rw [h]
  unfold mayGo
  rw [List.all_eq_true]
  have h4 := hM.n4
  have hb : ∀ i ∈ st.map fun s => (way M s (l.take k)).2, i < 10 := fun i hi => by
    obtain ⟨u, hu, rfl⟩ := List.mem_map.mp hi
    have := way_lt hM (hl.take k).mem (hst u hu)
    omega
  constructor
  · intro h s hs
    rw [key]
    have := h _ ((mem_isort hb).mpr (List.mem_map_of_mem hs))
    simpa using this
  · intro h t ht
    obtain ⟨s, hs, rfl⟩ := List.mem_map.mp ((mem_isort hb).mp ht)
    have := (key s).mp (h s hs)
    simpa using this
theorem every_lt {i : Nat} (h : i ∈ every M) : i < M.n := List.mem_range.mp h
theorem goer_iff (hM : M.Ok) {l : Log} (hl : LogOk M l) {k : Nat} {st : List Nat} (hst : ∀ i ∈ st, i < M.n) : k ∈ goers M l st ↔ k < l.length ∧ l.getD k look ≠ look ∧ ∀ s ∈ st, markedAt M l s = markedAt M (without l [k]) s := by
  rw [goers_mem]
  constructor
  · rintro ⟨h1, h2, h3⟩
    exact ⟨h1, h2, (may_iff hM hl h1 h2 hst).mp h3⟩
  · rintro ⟨h1, h2, h3⟩
    exact ⟨h1, h2, (may_iff hM hl h1 h2 hst).mpr h3⟩
theorem goers_less (hM : M.Ok) {l : Log} (hl : LogOk M l) {st : List Nat} (hst : ∀ i ∈ st, i < M.n) {k : Nat} (h : k ∈ goers M l (every M)) : k ∈ goers M l st := by
  rw [goer_iff hM hl (fun i => every_lt)] at h
  rw [goer_iff hM hl hst]
  exact ⟨h.1, h.2.1, fun s hs => h.2.2 s (List.mem_range.mpr (hst s hs))⟩
/-- what goes because of those behind alone can go -/
theorem goers_tail (hM : M.Ok) {l : Log} (hl : LogOk M l) {k : Nat} (hk : k < l.length) (hne : l.getD k look ≠ look) (h : ∀ s, s < M.n → markedAt M (l.drop k) s = markedAt M (l.drop (k + 1)) s) : k ∈ goers M l (every M) := by
  rw [goers_mem]
  refine ⟨hk, hne, ?_⟩
  unfold mayGo
  rw [List.all_eq_true]
  intro t ht
  have := h t (img_lt hM (hl.take k) (fun i => every_lt) ht)
  rw [drop_at (getD_some look hk)] at this
  unfold markedAt at this
  rw [way_cons, if_neg hne] at this
  exact decide_eq_true this
/-- stays_for's answer -/
theorem stays_iff (hM : M.Ok) {l : Log} (hl : LogOk M l) {k : Nat} (hk : k < l.length) (hne : l.getD k look ≠ look) : stays M l k (every M) = [] ↔ k ∈ goers M l (every M) := by
  rw [goer_iff hM hl (fun i => every_lt)]
  unfold stays
  rw [List.filter_eq_nil_iff]
  constructor
  · intro h
    exact ⟨hk, hne, fun s hs => by simpa using h s hs⟩
  · rintro ⟨_, _, h⟩ s hs
    have := h s hs
    simpa using this
theorem stays_first {l : Log} {k f : Nat} {r : List Nat} (h : stays M l k (every M) = f :: r) : f < M.n ∧ markedAt M l f ≠ markedAt M (without l [k]) f := by
  have : f ∈ stays M l k (every M) := by rw [h]; exact List.mem_cons_self ..
  obtain ⟨h1, h2⟩ := List.mem_filter.mp this
  exact ⟨every_lt h1, by simpa using h2⟩
/-! ### one by one -/
/-- part: the log without some deeds -/
inductive Part : Log → Log → Prop
  | nil : Part [] []
  | keep (x : Str) {l p : Log} : Part l p → Part (x :: l) (x :: p)
  | drop {x : Str} {l p : Log} : x ≠ look → Part l p → Part (x :: l) p
theorem Part.refl : ∀ l : Log, Part l l
  | [] => .nil
  | x :: l => .keep x (Part.refl l)
theorem Part.trans {l p q : Log} (h : Part l p) (g : Part p q) : Part l q := by
  induction h generalizing q with
  | nil => exact g
  | keep x h ih =>
    cases g with
    | keep _ g => exact .keep x (ih g)
    | drop hx g => exact .drop hx (ih g)
  | drop hx h ih => exact .drop hx (ih g)
theorem Part.pre : ∀ (u : Log) {l p : Log}, Part l p → Part (u ++ l) (u ++ p)
  | [], _, _, h => h
  | x :: u, _, _, h => .keep x (Part.pre u h)
theorem part_without {l : Log} {k : Nat} (hk : k < l.length) (hne : l.getD k look ≠ look) : Part l (without l [k]) := by
  rw [without_one hk]
  have := Part.pre (l.take k) (Part.drop hne (Part.refl (l.drop (k + 1))))
  rwa [← split_at hk] at this
structure FirmOk (M : Mac) (l f : Log) : Prop where
  same : ∀ s, s < M.n → markedAt M f s = markedAt M l s
  rest : goers M f (every M) = []
  part : Part l f
  ok : LogOk M f
  len : f.length ≤ l.length
theorem firmN_ok (hM : M.Ok) : ∀ (k : Nat) {l : Log}, l.length ≤ k → LogOk M l → FirmOk M l (firmN M k l)
  | 0, l, h, hl => by
    have e : l = [] := List.eq_nil_of_length_eq_zero (by omega)
    subst e
    exact ⟨fun _ _ => rfl, rfl, .nil, hl, Nat.le_refl _⟩
  | k + 1, l, h, hl => by
    cases e : goers M l (every M) with
    | nil =>
      have : firmN M (k + 1) l = l := by rw [firmN, e]
      rw [this]
      exact ⟨fun _ _ => rfl, e, Part.refl l, hl, Nat.le_refl _⟩
    | cons p ps =>
      have : firmN M (k + 1) l = firmN M k (without l [p]) := by rw [firmN, e]
      rw [this]
      have hp : p ∈ goers M l (every M) := by rw [e]; exact List.mem_cons_self ..
      obtain ⟨h1, h2, h3⟩ := (goer_iff hM hl (fun i => every_lt)).mp hp
      have hlt := without_lt h1
      have I := firmN_ok hM k (by omega) (hl.without [p])
      exact ⟨fun s hs => (I.same s hs).trans (h3 s (List.mem_range.mpr hs)).symm, I.rest, (part_without h1 h2).trans I.part, I.ok, by have := I.len; omega⟩
theorem firm_ok (hM : M.Ok) {l : Log} (hl : LogOk M l) : FirmOk M l (firm M l) := firmN_ok hM _ (Nat.le_refl _) hl
end
/-! ### twins: logs of deeds alone -/
section
variable {M : Mac}
def run (M : Mac) (s : Nat) (l : Log) : Nat := (way M s l).2
def kap (M : Mac) (t : Nat) : Nat := (marks M).getD t 0
theorem Mac.Ok.no_look (hM : M.Ok) : look ∉ M.nms := fun h => (hM.nm _ (hM.in_ks h)).look rfl
theorem LN.no_look (hM : M.Ok) {l : Log} (h : LN M l) : ∀ x ∈ l, x ≠ look := fun x hx e => hM.no_look (e ▸ h x hx)
theorem LN.ok (hM : M.Ok) {l : Log} (h : LN M l) (hl : l.length ≤ 200) : LogOk M l := ⟨fun x hx => .inr (hM.in_ks (h x hx)), hl⟩
theorem seen_nil : ∀ {l : Log} (s : Nat), (∀ x ∈ l, x ≠ look) → (way M s l).1 = []
  | [], _, _ => rfl
  | x :: l, s, h => by
    rw [way_cons, if_neg (h x (List.mem_cons_self ..))]
    exact seen_nil _ fun y hy => h y (List.mem_cons_of_mem _ hy)
theorem marked_ln (hM : M.Ok) {l : Log} (h : LN M l) (s : Nat) : markedAt M l s = ([], kap M (run M s l)) := by
  unfold markedAt
  rw [seen_nil s (h.no_look hM)]
  rfl
theorem run_app (l m : Log) (s : Nat) : run M s (l ++ m) = run M (run M s l) m := by
  unfold run
  rw [way_app]
theorem run_cons {x : Str} (hx : x ≠ look) (l : Log) (s : Nat) : run M s (x :: l) = run M (stp M x s) l := by
  unfold run
  rw [way_cons, if_neg hx]
theorem run_lt (hM : M.Ok) {l : Log} (h : LN M l) {s : Nat} (hs : s < M.n) : run M s l < M.n := way_lt hM (fun x hx => .inr (hM.in_ks (h x hx))) hs
theorem LN.app {l m : Log} (h : LN M l) (g : LN M m) : LN M (l ++ m) := fun x hx => (List.mem_append.mp hx).elim (h x) (g x)
theorem LN.cons {l : Log} {x : Str} (hx : x ∈ M.nms) (h : LN M l) : LN M (x :: l) := fun y hy => (List.mem_cons.mp hy).elim (fun e => e ▸ hx) (h y)
theorem LN.take {l : Log} (h : LN M l) (k : Nat) : LN M (l.take k) := fun x hx => h x (List.mem_of_mem_take hx)
theorem LN.drop {l : Log} (h : LN M l) (k : Nat) : LN M (l.drop k) := fun x hx => h x (List.mem_of_mem_drop hx)
theorem img_mem (hM : M.Ok) {l : Log} (h : LN M l) {t : Nat} : t ∈ img M l (every M) ↔ ∃ s, s < M.n ∧ run M s l = t := by
  unfold img
  have h4 := hM.n4
  rw [mem_isort fun i hi => ?_]
  · rw [List.mem_map]
    exact exists_congr fun s => and_congr_left' List.mem_range
  · obtain ⟨u, hu, rfl⟩ := List.mem_map.mp hi
    have := run_lt hM h (every_lt hu)
    show run M u l < 10
    omega
/-- the table of a log's way -/
def tab (M : Mac) (l : Log) : List Nat := (every M).map fun s => run M s l
theorem tab_at {l : Log} {s : Nat} (hs : s < M.n) : at0 (tab M l) s = run M s l := by
  unfold at0 tab every
  rw [List.getD_eq_getElem?_getD, List.getElem?_map, List.getElem?_range hs]
  rfl
theorem mv_at {x : Str} (s : Nat) : at0 (M.mv x) s = stp M x s := rfl
end
/-! ### blocks tell the first places -/
theorem zip_rangeN (fs : List Nat) : fs.zipIdx = (List.range fs.length).map fun k => (fs.getD k 0, k) := by
  refine List.ext_getElem (by simp) fun i h1 h2 => ?_
  have h3 : i < fs.length := by simpa using h1
  simp [h3]
theorem blockAt_eq (fs : List Nat) (p : Nat) : blockAt fs p = (List.range fs.length).filter fun q => decide (fs.getD q 0 = p) := by
  unfold blockAt
  rw [zip_rangeN, List.filter_map, List.map_map]
  have : ((fun x : Nat × Nat => x.2) ∘ fun k => (fs.getD k 0, k)) = id := rfl
  rw [this, List.map_id]
  rfl
theorem topsL_eq (fs : List Nat) : topsL fs = (List.range fs.length).filter fun q => decide (fs.getD q 0 = q) := by
  unfold topsL
  rw [zip_rangeN, List.filter_map, List.map_map]
  have : ((fun x : Nat × Nat => x.2) ∘ fun k => (fs.getD k 0, k)) = id := rfl
  rw [this, List.map_id]
  rfl
theorem mem_block {fs : List Nat} {p q : Nat} : q ∈ blockAt fs p ↔ q < fs.length ∧ fs.getD q 0 = p := by
  rw [blockAt_eq, List.mem_filter, List.mem_range, decide_eq_true_iff]
theorem mem_topsL {fs : List Nat} {p : Nat} : p ∈ topsL fs ↔ p < fs.length ∧ fs.getD p 0 = p := by
  rw [topsL_eq, List.mem_filter, List.mem_range, decide_eq_true_iff]
theorem filter_one {l : List Nat} {a : Nat} (nd : l.Nodup) (h : a ∈ l) : l.filter (fun q => decide (a = q)) = [a] := by
  induction l with
  | nil => cases h
  | cons b l ih =>
    obtain ⟨h1, h2⟩ := List.nodup_cons.mp nd
    rw [List.filter_cons]
    by_cases e : a = b
    · subst e
      rw [if_pos (by simp)]
      have : l.filter (fun q => decide (a = q)) = [] := List.filter_eq_nil_iff.mpr fun q hq => by
        have : a ≠ q := fun z => h1 (z ▸ hq)
        simpa using this
      rw [this]
    · rw [if_neg (by simpa using e)]
      exact ih h2 ((List.mem_cons.mp h).resolve_left e)
theorem head_least {l : List Nat} {a : Nat} (pw : l.Pairwise (· < ·)) (h : a ∈ l) (le : ∀ r ∈ l, a ≤ r) : l.getD 0 0 = a := by
  cases l with
  | nil => cases h
  | cons b l =>
    show b = a
    have h1 := le b (List.mem_cons_self ..)
    rcases List.mem_cons.mp h with e | e
    · exact e.symm
    · have := (List.pairwise_cons.mp pw).1 a e
      omega
theorem flat_single {α β : Type} (f : α → β) : ∀ l : List α, l.flatMap (fun p => [f p]) = l.map f
  | [] => rfl
  | a :: l => by rw [List.flatMap_cons, flat_single f l]; rfl
theorem tops_blocks {n : Nat} {fs : List Nat} (c : Canon n fs) : topsOf n (blocksL fs) = fs := by
  have nd : (topsL fs).Nodup := by
    rw [topsL_eq]
    exact List.nodup_range.filter _
  have one : ∀ p, p < n → (((blocksL fs).filter fun b => decide (p ∈ b)).map fun b => b.getD 0 0) = [fs.getD p 0] := fun p hp => by
    have hq : fs.getD p 0 < n := Nat.lt_of_le_of_lt (c.le p hp) hp
    have ht : fs.getD p 0 ∈ topsL fs := mem_topsL.mpr ⟨by rw [c.len]; exact hq, c.idem p hp⟩
    have e1 : (blocksL fs).filter (fun b => decide (p ∈ b)) = ((topsL fs).filter fun q => decide (fs.getD p 0 = q)).map (blockAt fs) := by
      unfold blocksL
      rw [List.filter_map]
      refine congrArg (List.map _) (List.filter_congr fun q _ => ?_)
      show decide (p ∈ blockAt fs q) = _
      refine decide_eq_decide.mpr ?_
      rw [mem_block, c.len]
      exact ⟨fun h => h.2, fun h => ⟨hp, h⟩⟩
    rw [e1, filter_one nd ht]
    show [(blockAt fs (fs.getD p 0)).getD 0 0] = _
    refine congrArg (fun x => [x]) (head_least ?_ (mem_block.mpr ⟨by rw [c.len]; exact hq, c.idem p hp⟩) fun r hr => ?_)
    · rw [blockAt_eq]
      exact List.Pairwise.filter _ (List.pairwise_lt_range ..)
    · obtain ⟨h1, h2⟩ := mem_block.mp hr
      have := c.le r (by rw [← c.len]; exact h1)
      omega
  unfold topsOf
  have e : (List.range n).flatMap (fun p => ((blocksL fs).filter fun b => decide (p ∈ b)).map fun b => b.getD 0 0) = (List.range n).flatMap fun p => [fs.getD p 0] := by
    have : ∀ l : List Nat, (∀ p ∈ l, p < n) → l.flatMap (fun p => ((blocksL fs).filter fun b => decide (p ∈ b)).map fun b => b.getD 0 0) = l.flatMap fun p => [fs.getD p 0] := by
      intro l
      induction l with
      | nil => intro _; rfl
      | cons p l ih =>
        intro h
        rw [List.flatMap_cons, List.flatMap_cons, one p (h p (List.mem_cons_self ..)), ih fun q hq => h q (List.mem_cons_of_mem _ hq)]
    exact this _ fun p hp => List.mem_range.mp hp
  rw [e]
  refine list_ext_getD ?_ fun a ha => ?_
  · rw [flat_single, List.length_map, List.length_range, c.len]
  · rw [flat_single] at ha ⊢
    rw [List.length_map, List.length_range] at ha
    rw [List.getD_eq_getElem?_getD, List.getElem?_map, List.getElem?_range ha]
    rfl
section
variable {M : Mac}
theorem marked_len (l : Log) : (marked M l).length = M.n := by
  unfold marked
  rw [List.length_map, List.length_range]
theorem marked_getD {l : Log} {s : Nat} (hs : s < M.n) : (marked M l).getD s ([], 0) = markedAt M l s := by
  unfold marked
  rw [List.getD_eq_getElem?_getD, List.getElem?_map, List.getElem?_range hs]
  rfl
/-- what twins reads of a log behind: numbers that are equal where the marks are -/
def rest (M : Mac) (l : Log) : List Nat := topsOf M.n (blocksL (firsts (marked M l)))
theorem rest_eq (l : Log) : rest M l = firsts (marked M l) := by
  have := canon_firsts ([], 0) (marked M l)
  rw [marked_len] at this
  exact tops_blocks this
theorem rest_iff {l : Log} {a b : Nat} (ha : a < M.n) (hb : b < M.n) : at0 (rest M l) a = at0 (rest M l) b ↔ markedAt M l a = markedAt M l b := by
  rw [rest_eq]
  unfold at0
  rw [firsts_same ([], 0) (by rw [marked_len]; exact ha) (by rw [marked_len]; exact hb), marked_getD ha, marked_getD hb]
theorem rest_ln (hM : M.Ok) {l : Log} (h : LN M l) {a b : Nat} (ha : a < M.n) (hb : b < M.n) : at0 (rest M l) a = at0 (rest M l) b ↔ kap M (run M a l) = kap M (run M b l) := by
  rw [rest_iff ha hb, marked_ln hM h, marked_ln hM h]
  exact ⟨fun e => congrArg Prod.snd e, fun e => by rw [e]⟩
/-- no twins anywhere -/
def NoTw (M : Mac) : Prop := ∀ sl ml el, LN M sl → LN M ml → LN M el → ∀ a ∈ M.nms, ∀ b ∈ M.nms, areTw M (img M sl (every M)) (tab M ml) (rest M el) a b = false
/-- what are_twins asks, of ways -/
theorem are_iff (hM : M.Ok) {sl ml el : Log} (h1 : LN M sl) (h2 : LN M ml) (h3 : LN M el) {a b : Str} (ha : a ∈ M.nms) (hb : b ∈ M.nms) : areTw M (img M sl (every M)) (tab M ml) (rest M el) a b = true ↔
    (∀ s, s < M.n → kap M (run M (stp M b (run M (stp M a (run M s sl)) ml)) el) = kap M (run M (stp M b (run M (run M s sl) ml)) el)) ∧
    (∀ s, s < M.n → kap M (run M (stp M b (run M (stp M a (run M s sl)) ml)) el) = kap M (run M (run M (stp M a (run M s sl)) ml) el)) ∧
    ∃ s, s < M.n ∧ kap M (run M (stp M b (run M (stp M a (run M s sl)) ml)) el) ≠ kap M (run M (run M (run M s sl) ml) el) := by
  have ka := hM.in_ks ha
  have kb := hM.in_ks hb
  have tA : ∀ {s}, s < M.n → stp M a s < M.n := fun h => hM.stp_lt ka h
  have tB : ∀ {s}, s < M.n → stp M b s < M.n := fun h => hM.stp_lt kb h
  have all_iff : ∀ (f : Nat → Bool), (img M sl (every M)).all f = true ↔ ∀ s, s < M.n → f (run M s sl) = true := fun f => by
    rw [List.all_eq_true]
    constructor
    · intro h s hs
      exact h _ ((img_mem hM h1).mpr ⟨s, hs, rfl⟩)
    · intro h t ht
      obtain ⟨s, hs, rfl⟩ := (img_mem hM h1).mp ht
      exact h s hs
  unfold areTw
  rw [Bool.and_eq_true, Bool.and_eq_true, all_iff, all_iff]
  have c1 : ∀ s, s < M.n → (decide (at0 (rest M el) (at0 (M.mv b) (at0 (tab M ml) (at0 (M.mv a) (run M s sl)))) = at0 (rest M el) (at0 (M.mv b) (at0 (tab M ml) (run M s sl)))) = true ↔ kap M (run M (stp M b (run M (stp M a (run M s sl)) ml)) el) = kap M (run M (stp M b (run M (run M s sl) ml)) el)) := fun s hs => by
    have r := run_lt hM h1 hs
    rw [decide_eq_true_iff]
    simp only [mv_at]
    rw [tab_at (tA r), tab_at r, rest_ln hM h3 (tB (run_lt hM h2 (tA r))) (tB (run_lt hM h2 r))]
  have c2 : ∀ s, s < M.n → (decide (at0 (rest M el) (at0 (M.mv b) (at0 (tab M ml) (at0 (M.mv a) (run M s sl)))) = at0 (rest M el) (at0 (tab M ml) (at0 (M.mv a) (run M s sl)))) = true ↔ kap M (run M (stp M b (run M (stp M a (run M s sl)) ml)) el) = kap M (run M (run M (stp M a (run M s sl)) ml) el)) := fun s hs => by
    have r := run_lt hM h1 hs
    rw [decide_eq_true_iff]
    simp only [mv_at]
    rw [tab_at (tA r), rest_ln hM h3 (tB (run_lt hM h2 (tA r))) (run_lt hM h2 (tA r))]
  have c3 : ∀ s, s < M.n → (decide (at0 (rest M el) (at0 (M.mv b) (at0 (tab M ml) (at0 (M.mv a) (run M s sl)))) = at0 (rest M el) (at0 (tab M ml) (run M s sl))) = true ↔ kap M (run M (stp M b (run M (stp M a (run M s sl)) ml)) el) = kap M (run M (run M (run M s sl) ml) el)) := fun s hs => by
    have r := run_lt hM h1 hs
    rw [decide_eq_true_iff]
    simp only [mv_at]
    rw [tab_at (tA r), tab_at r, rest_ln hM h3 (tB (run_lt hM h2 (tA r))) (run_lt hM h2 r)]
  refine and_congr (forall_congr' fun s => forall_congr' fun hs => c1 s hs) (and_congr (forall_congr' fun s => forall_congr' fun hs => c2 s hs) ?_)
  rw [Bool.not_eq_true', ← Bool.not_eq_true, all_iff]
  constructor
  · intro h
    refine Classical.byContradiction fun hn => h fun s hs => ?_
    refine (c3 s hs).mpr (Classical.byContradiction fun hne => hn ⟨s, hs, hne⟩)
  · rintro ⟨s, hs, hne⟩ h
    exact hne ((c3 s hs).mp (h s hs))
/-- a goer of a log of deeds -/
theorem goer_ln (hM : M.Ok) {u v : Log} {x : Str} (hu : LN M u) (hv : LN M v) (hx : x ∈ M.nms) (hl : (u ++ x :: v).length ≤ 200) : u.length ∈ goers M (u ++ x :: v) (every M) ↔ ∀ s, s < M.n → kap M (run M (stp M x (run M s u)) v) = kap M (run M (run M s u) v) := by
  have hL := hu.app (hv.cons hx)
  have hk : u.length < (u ++ x :: v).length := by simp
  have hg : (u ++ x :: v).getD u.length look = x := by
    rw [List.getD_eq_getElem?_getD, List.getElem?_append_right (Nat.le_refl _)]
    simp
  have hne : x ≠ look := fun e => hM.no_look (e ▸ hx)
  rw [goer_iff hM (hL.ok hM hl) (fun i => every_lt)]
  have e1 : without (u ++ x :: v) [u.length] = u ++ v := by
    have := without_cons (u := u) (v := v) (x := x) (ps := []) (fun p hp => by cases hp)
    rwa [List.nil_append, without_none] at this
  rw [e1]
  constructor
  · rintro ⟨_, _, h⟩ s hs
    have := h s (List.mem_range.mpr hs)
    rw [marked_ln hM hL, marked_ln hM (hu.app hv), run_app, run_app, run_cons hne] at this
    exact congrArg Prod.snd this
  · intro h
    refine ⟨hk, by rw [hg]; exact hne, fun s hs => ?_⟩
    rw [marked_ln hM hL, marked_ln hM (hu.app hv), run_app, run_app, run_cons hne]
    rw [h s (every_lt hs)]
theorem goers_split (hM : M.Ok) {l : Log} (hl : LN M l) {k : Nat} (hk : k < l.length) : ∃ u x v, l = u ++ x :: v ∧ u.length = k ∧ LN M u ∧ LN M v ∧ x ∈ M.nms := by
  refine ⟨l.take k, l.getD k look, l.drop (k + 1), split_at hk, by rw [List.length_take]; omega, hl.take k, hl.drop (k + 1), hl _ ?_⟩
  rw [List.getD_eq_getElem?_getD, List.getElem?_eq_getElem hk]
  exact List.getElem_mem ..
/-- where no log has twins, all deeds that can go can go together -/
theorem all_go (hM : M.Ok) (hT : NoTw M) : ∀ (n : Nat) {l : Log} {G : List Nat}, LN M l → l.length ≤ 200 → G.length = n → G.Pairwise (· < ·) → (∀ g ∈ G, g ∈ goers M l (every M)) → ∀ s, s < M.n → markedAt M l s = markedAt M (without l G) s
  | 0, l, G, _, _, hn, _, _, s, _ => by
    have e : G = [] := List.eq_nil_of_length_eq_zero hn
    subst e
    rw [without_none]
  | n + 1, l, G, hl, h200, hn, pw, hG, s, hs => by
    obtain ⟨G0, g, rfl⟩ : ∃ G0 g, G = G0 ++ [g] := ⟨G.dropLast, G.getLast (fun e => by rw [e] at hn; cases hn), (List.dropLast_concat_getLast _).symm⟩
    rw [List.pairwise_append] at pw
    obtain ⟨pw0, _, lt⟩ := pw
    have hg := hG g (List.mem_append_right _ (List.mem_singleton.mpr rfl))
    have hgl := (goers_mem.mp hg).1
    obtain ⟨u, x, v, rfl, ul, hu, hv, hx⟩ := goers_split hM hl hgl
    subst ul
    have hne : x ≠ look := fun e => hM.no_look (e ▸ hx)
    have h0 : ∀ p ∈ G0, p < u.length := fun p hp => lt p hp _ (List.mem_singleton.mpr rfl)
    rw [without_cons h0]
    have gx := (goer_ln hM hu hv hx h200).mp hg
    have hl' := hu.app hv
    have len' : (u ++ v).length ≤ 200 := by
      rw [List.length_append] at h200 ⊢
      rw [List.length_cons] at h200
      omega
    have key : markedAt M (u ++ x :: v) s = markedAt M (u ++ v) s := by
      rw [marked_ln hM hl, marked_ln hM hl', run_app, run_app, run_cons hne, gx s hs]
    rw [key, ← without_app h0]
    refine all_go hM hT n hl' len' (by rw [List.length_append] at hn; exact Nat.succ.inj hn) pw0 (fun p hp => ?_) s hs
    have hpu := h0 p hp
    obtain ⟨u1, y, m, e, pl, h1, h2, hy⟩ := goers_split hM hu hpu
    subst e pl
    have hpg := hG u1.length (List.mem_append_left _ hp)
    have e1 : (u1 ++ y :: m) ++ x :: v = u1 ++ y :: (m ++ x :: v) := by simp
    have e2 : (u1 ++ y :: m) ++ v = u1 ++ y :: (m ++ v) := by simp
    rw [e1] at hpg h200
    rw [e2] at len' ⊢
    have hm := h2.app (hv.cons hx)
    have gp := (goer_ln hM h1 hm hy h200).mp hpg
    refine (goer_ln hM h1 (h2.app hv) hy len').mpr fun t ht => ?_
    have hney : y ≠ look := fun e => hM.no_look (e ▸ hy)
    rw [run_app, run_app]
    refine Classical.byContradiction fun hno => ?_
    have no := hT u1 m v h1 h2 hv y hy x hx
    have yes := (are_iff hM h1 h2 hv hy hx).mpr ⟨fun r hr => ?_, fun r hr => ?_, t, ht, ?_⟩
    · rw [no] at yes
      cases yes
    · have := gp r hr
      rwa [run_app, run_app, run_cons hne, run_cons hne] at this
    · have := gx r hr
      rwa [run_app, run_cons hney] at this
    · intro e
      have := gx t ht
      rw [run_app, run_cons hney] at this
      exact hno (this.symm.trans e)
theorem can_all (hM : M.Ok) (hT : NoTw M) {l : Log} (hl : LN M l) (h : l.length ≤ 200) : canAll M l (goers M l (every M)) (every M) = true := by
  unfold canAll
  rw [List.all_eq_true]
  intro s hs
  refine decide_eq_true (all_go hM hT _ hl h rfl ?_ (fun g hg => hg) s (every_lt hs))
  exact List.Pairwise.filter _ (List.pairwise_lt_range ..)
/-- told twins are twins -/
theorem tw_pair (hM : M.Ok) {sl ml el : Log} (h1 : LN M sl) (h2 : LN M ml) (h3 : LN M el) {a b : Str} (ha : a ∈ M.nms) (hb : b ∈ M.nms) (h : areTw M (img M sl (every M)) (tab M ml) (rest M el) a b = true) (h200 : (sl ++ a :: (ml ++ b :: el)).length ≤ 200) :
    [sl.length, sl.length + 1 + ml.length] ∈ twinPairs M (sl ++ a :: (ml ++ b :: el)) := by
  obtain ⟨c1, c2, s, hs, c3⟩ := (are_iff hM h1 h2 h3 ha hb).mp h
  have na : a ≠ look := fun e => hM.no_look (e ▸ ha)
  have nb : b ≠ look := fun e => hM.no_look (e ▸ hb)
  have hm := h2.app (h3.cons hb)
  have g1 : sl.length ∈ goers M (sl ++ a :: (ml ++ b :: el)) (every M) := (goer_ln hM h1 hm ha h200).mpr fun r hr => by
    rw [run_app, run_app, run_cons nb, run_cons nb]
    exact c1 r hr
  have e2 : sl ++ a :: (ml ++ b :: el) = (sl ++ a :: ml) ++ b :: el := by simp
  have l2 : (sl ++ a :: ml).length = sl.length + 1 + ml.length := by simp; omega
  have g2 : sl.length + 1 + ml.length ∈ goers M (sl ++ a :: (ml ++ b :: el)) (every M) := by
    rw [← l2, e2]
    rw [e2] at h200
    refine (goer_ln hM (h1.app (h2.cons ha)) h3 hb h200).mpr fun r hr => ?_
    rw [run_app, run_cons na]
    exact c2 r hr
  unfold twinPairs
  refine List.mem_filter.mpr ⟨pairsN_mem.mpr ⟨_, _, rfl, g1, g2, by omega⟩, ?_⟩
  have : canAll M (sl ++ a :: (ml ++ b :: el)) [sl.length, sl.length + 1 + ml.length] (every M) = false := by
    cases e : canAll M (sl ++ a :: (ml ++ b :: el)) [sl.length, sl.length + 1 + ml.length] (every M) with
    | false => rfl
    | true =>
      unfold canAll at e
      rw [List.all_eq_true] at e
      have e3 := of_decide_eq_true (e s (List.mem_range.mpr hs))
      have w : without (sl ++ a :: (ml ++ b :: el)) [sl.length, sl.length + 1 + ml.length] = sl ++ (ml ++ el) := by
        have q1 := without_cons (u := sl ++ a :: ml) (v := el) (x := b) (ps := [sl.length]) (fun p hp => by rw [List.mem_singleton.mp hp, l2]; omega)
        rw [l2] at q1
        rw [e2]
        refine q1.trans ?_
        have q2 := without_cons (u := sl) (v := ml) (x := a) (ps := []) (fun p hp => by cases hp)
        rw [List.nil_append, without_none] at q2
        rw [q2, List.append_assoc]
      rw [w, marked_ln hM (h1.app (hm.cons ha)), marked_ln hM (h1.app (h2.app h3)), run_app, run_cons na, run_app, run_cons nb, run_app, run_app] at e3
      exact absurd (congrArg Prod.snd e3) c3
  rw [this]
  rfl
theorem pair_can (hM : M.Ok) {l : Log} (hl : LogOk M l) {p : Nat} (h : p ∈ goers M l (every M)) : canAll M l [p] (every M) = true := by
  unfold canAll
  rw [List.all_eq_true]
  intro s hs
  exact decide_eq_true (((goer_iff hM hl (fun i => every_lt)).mp h).2.2 s hs)
end
end K7
/-! The plain law, third part: what first_logs finds is all there is. -/
namespace K7
open PySem
def nums (l : List Nat) : List NestedKey := l.map fun i => .num (i : Nat)
theorem datas_nums : ∀ l : List Nat, NestedKey.datas (nums l) = l.map eN
  | [] => rfl
  | i :: l => by
    show NestedKey.data (.num (i : Nat)) :: NestedKey.datas (nums l) = _
    rw [datas_nums l]
    rfl
def kTN (l : List Nat) : NestedKey := .tup (nums l)
theorem data_kTN (l : List Nat) : (kTN l).data = eTN l := by
  show PyData.tuple (NestedKey.datas (nums l)) = _
  rw [datas_nums]
theorem inj_nums : ∀ {l m : List Nat}, nums l = nums m → l = m := fun {l m} h => by
  refine (List.map_inj_right fun a b e => ?_).mp h
  injection e with e
  omega
theorem inj_kTN {l m : List Nat} (h : kTN l = kTN m) : l = m := by
  injection h with h
  exact inj_nums h
theorem depth_nums : ∀ l : List Nat, NestedKey.depthAll (nums l) = 0
  | [] => rfl
  | i :: l => by
    show max 0 (NestedKey.depthAll (nums l)) = 0
    rw [depth_nums l]
    rfl
theorem depth_kTN (l : List Nat) : (kTN l).depth = 1 := by
  show NestedKey.depthAll (nums l) + 1 = 1
  rw [depth_nums]
def kB (bl : List (List Nat)) : NestedKey := .tup (bl.map kTN)
theorem datas_kB : ∀ bl : List (List Nat), NestedKey.datas (bl.map kTN) = bl.map eTN
  | [] => rfl
  | b :: bl => by
    show (kTN b).data :: NestedKey.datas (bl.map kTN) = _
    rw [datas_kB bl, data_kTN]
    rfl
theorem data_kB (bl : List (List Nat)) : (kB bl).data = eB bl := by
  show PyData.tuple (NestedKey.datas (bl.map kTN)) = _
  rw [datas_kB]
theorem inj_kB {a b : List (List Nat)} (h : kB a = kB b) : a = b := by
  injection h with h
  exact (List.map_inj_right fun _ _ => inj_kTN).mp h
theorem depth_kB (bl : List (List Nat)) : (kB bl).depth ≤ 8 := by
  have : ∀ bl : List (List Nat), NestedKey.depthAll (bl.map kTN) ≤ 1 := by
    intro bl
    induction bl with
    | nil => exact Nat.zero_le _
    | cons b bl ih =>
      show max (kTN b).depth (NestedKey.depthAll (bl.map kTN)) ≤ 1
      rw [depth_kTN]
      omega
  have := this bl
  show NestedKey.depthAll (bl.map kTN) + 1 ≤ 8
  omega
/-! ### few -/
def subs : List Nat → List (List Nat)
  | [] => [[]]
  | a :: l => subs l ++ (subs l).map (a :: ·)
theorem filter_subs (p : Nat → Bool) : ∀ l : List Nat, l.filter p ∈ subs l
  | [] => List.mem_singleton.mpr rfl
  | a :: l => by
    rw [List.filter_cons]
    by_cases h : p a = true
    · rw [if_pos h]
      exact List.mem_append_right _ (List.mem_map_of_mem (filter_subs p l))
    · rw [if_neg h]
      exact List.mem_append_left _ (filter_subs p l)
def tabs (n : Nat) : Nat → List (List Nat)
  | 0 => [[]]
  | k + 1 => (List.range n).flatMap fun a => (tabs n k).map (a :: ·)
theorem mem_tabs {n : Nat} : ∀ {k : Nat} {l : List Nat}, l.length = k → (∀ a ∈ l, a < n) → l ∈ tabs n k
  | 0, l, h, _ => by
    have e : l = [] := List.eq_nil_of_length_eq_zero h
    subst e
    exact List.mem_singleton.mpr rfl
  | k + 1, [], h, _ => by cases h
  | k + 1, a :: l, h, hl => List.mem_flatMap.mpr ⟨a, List.mem_range.mpr (hl a (List.mem_cons_self ..)), List.mem_map_of_mem (mem_tabs (Nat.succ.inj h) fun b hb => hl b (List.mem_cons_of_mem _ hb))⟩
theorem tabs_len (n : Nat) (h : n ≤ 3) : (tabs n n).length ≤ 27 := by
  have : n = 0 ∨ n = 1 ∨ n = 2 ∨ n = 3 := by omega
  rcases this with rfl | rfl | rfl | rfl <;> decide
theorem subs_len (n : Nat) (h : n ≤ 3) : (subs (List.range n)).length ≤ 27 := by
  have : n = 0 ∨ n = 1 ∨ n = 2 ∨ n = 3 := by omega
  rcases this with rfl | rfl | rfl | rfl <;> decide
section
variable {M : Mac}
def mk1 (M : Mac) (l : Log) : NestedKey := kTN (img M l (every M))
def mk2 (M : Mac) (l : Log) : NestedKey := kTN (tab M l)
def mk3 (M : Mac) (l : Log) : NestedKey := kB (blocksL (firsts (marked M l)))
theorem img_filter (hM : M.Ok) {l : Log} (h : LN M l) : img M l (every M) = (List.range M.n).filter fun i => decide (i ∈ (every M).map fun s => (way M s l).2) := by
  have h4 := hM.n4
  unfold img isort
  have e : List.range 10 = List.range M.n ++ (List.range (10 - M.n)).map (M.n + ·) := by
    rw [← List.range_add]
    congr 1
    omega
  rw [e, List.filter_append]
  have : ((List.range (10 - M.n)).map (M.n + ·)).filter (fun i => decide (i ∈ (every M).map fun s => (way M s l).2)) = [] := List.filter_eq_nil_iff.mpr fun i hi => by
    obtain ⟨j, _, rfl⟩ := List.mem_map.mp hi
    have : M.n + j ∉ (every M).map fun s => (way M s l).2 := fun hm => by
      obtain ⟨u, hu, e⟩ := List.mem_map.mp hm
      have := run_lt hM h (every_lt hu)
      unfold run at this
      omega
    simpa using this
  rw [this, List.append_nil]
theorem mk1_ok (hM : M.Ok) (h3 : M.n ≤ 3) : MkOk M (mk1 M) 27 :=
  ⟨fun l => ⟨_, rfl⟩, fun l => by unfold mk1; rw [depth_kTN]; decide, ⟨(subs (List.range M.n)).map kTN, by rw [List.length_map]; exact subs_len _ h3, fun l hl => List.mem_map_of_mem (by rw [img_filter hM hl]; exact filter_subs _ _)⟩, by decide⟩
theorem tab_len (l : Log) : (tab M l).length = M.n := by
  unfold tab every
  rw [List.length_map, List.length_range]
theorem tab_lt (hM : M.Ok) {l : Log} (h : LN M l) : ∀ i ∈ tab M l, i < M.n := fun i hi => by
  obtain ⟨s, hs, rfl⟩ := List.mem_map.mp hi
  exact run_lt hM h (every_lt hs)
theorem mk2_ok (hM : M.Ok) (h3 : M.n ≤ 3) : MkOk M (mk2 M) 27 :=
  ⟨fun l => ⟨_, rfl⟩, fun l => by unfold mk2; rw [depth_kTN]; decide, ⟨(tabs M.n M.n).map kTN, by rw [List.length_map]; exact tabs_len _ h3, fun l hl => List.mem_map_of_mem (mem_tabs (tab_len l) (tab_lt hM hl))⟩, by decide⟩
theorem firsts_lt {l : Log} : ∀ i ∈ firsts (marked M l), i < M.n := fun i hi => by
  have c := canon_firsts ([], 0) (marked M l)
  rw [marked_len] at c
  obtain ⟨k, hk⟩ := List.getElem?_of_mem hi
  obtain ⟨h1, h2⟩ := List.getElem?_eq_some_iff.mp hk
  rw [c.len] at h1
  have := c.le k h1
  rw [List.getD_eq_getElem?_getD, hk] at this
  have : i ≤ k := this
  omega
theorem mk3_ok (hM : M.Ok) (h3 : M.n ≤ 3) : MkOk M (mk3 M) 27 :=
  ⟨fun l => ⟨_, rfl⟩, fun l => depth_kB _, ⟨(tabs M.n M.n).map fun fs => kB (blocksL fs), by rw [List.length_map]; exact tabs_len _ h3, fun l hl => List.mem_map.mpr ⟨firsts (marked M l), mem_tabs (by rw [firsts_len, marked_len]) firsts_lt, rfl⟩⟩, by decide⟩
/-- the mark of a longer log is told by the shorter's -/
def Cong (M : Mac) (mk : Log → NestedKey) (ah : Bool) : Prop := ∀ l l' x, LN M l → LN M l' → x ∈ M.nms → mk l = mk l' → mk (ext ah l x) = mk (ext ah l' x)
theorem isort_congr {l m : List Nat} (h : ∀ i, i ∈ l ↔ i ∈ m) : isort l = isort m := List.filter_congr fun i _ => decide_eq_decide.mpr (h i)
theorem cong1 (hM : M.Ok) : Cong M (mk1 M) false := fun l l' x hl hl' hx e => by
  have e := inj_kTN e
  have hne : x ≠ look := fun z => hM.no_look (z ▸ hx)
  refine congrArg kTN (isort_congr fun t => ?_)
  have key : ∀ {l : Log}, LN M l → (t ∈ (every M).map (fun s => (way M s (l ++ [x])).2) ↔ ∃ u ∈ img M l (every M), stp M x u = t) := fun {l} hl => by
    rw [List.mem_map]
    constructor
    · rintro ⟨s, hs, rfl⟩
      refine ⟨run M s l, (img_mem hM hl).mpr ⟨s, every_lt hs, rfl⟩, ?_⟩
      show _ = run M s (l ++ [x])
      rw [run_app, run_cons hne]
      rfl
    · rintro ⟨u, hu, rfl⟩
      obtain ⟨s, hs, rfl⟩ := (img_mem hM hl).mp hu
      refine ⟨s, List.mem_range.mpr hs, ?_⟩
      show run M s (l ++ [x]) = _
      rw [run_app, run_cons hne]
      rfl
  have mid : (∃ u ∈ img M l (every M), stp M x u = t) ↔ ∃ u ∈ img M l' (every M), stp M x u = t := by rw [e]
  exact (key hl).trans (mid.trans (key hl').symm)
theorem cong2 (hM : M.Ok) : Cong M (mk2 M) false := fun l l' x hl hl' hx e => by
  have e := inj_kTN e
  have hne : x ≠ look := fun z => hM.no_look (z ▸ hx)
  refine congrArg kTN (List.map_congr_left fun s hs => ?_)
  have := tab_at (M := M) (l := l) (every_lt hs)
  rw [e, tab_at (every_lt hs)] at this
  show run M s (l ++ [x]) = run M s (l' ++ [x])
  rw [run_app, run_app, this]
theorem firsts_congr {α β : Type} [DecidableEq α] [DecidableEq β] (d : α) (e : β) {l : List α} {m : List β} (hl : l.length = m.length) (h : ∀ i j, i < l.length → j < l.length → (l.getD i d = l.getD j d ↔ m.getD i e = m.getD j e)) : firsts l = firsts m := by
  have c1 := canon_firsts d l
  have c2 := canon_firsts e m
  rw [← hl] at c2
  refine list_ext_getD (by rw [firsts_len, firsts_len, hl]) fun a ha => ?_
  rw [firsts_len] at ha
  have r1 : (firsts l).getD a 0 < l.length := Nat.lt_of_le_of_lt (c1.le a ha) ha
  have r2 : (firsts m).getD a 0 < l.length := Nat.lt_of_le_of_lt (c2.le a ha) ha
  -- each is a first place of the other's block
  have p1 := (firsts_same d r1 ha).mp (c1.idem a ha)
  have p2 := (firsts_same e (by rw [← hl]; exact r2) (by rw [← hl]; exact ha)).mp (c2.idem a ha)
  have q1 := (firsts_same e (by rw [← hl]; exact r1) (by rw [← hl]; exact ha)).mpr ((h _ _ r1 ha).mp p1)
  have q2 := (firsts_same d r2 ha).mpr ((h _ _ r2 ha).mpr p2)
  have l1 := c2.le _ r1
  have l2 := c1.le _ r2
  omega
theorem cong3 (hM : M.Ok) : Cong M (mk3 M) true := fun l l' x hl hl' hx e => by
  have e := inj_kB e
  have hne : x ≠ look := fun z => hM.no_look (z ▸ hx)
  have ef : rest M l = rest M l' := by
    unfold rest
    rw [e]
  refine congrArg (fun fs => kB (blocksL fs)) (firsts_congr ([], 0) ([], 0) (by rw [marked_len, marked_len]) fun i j hi hj => ?_)
  rw [marked_len] at hi hj
  show (marked M (x :: l)).getD i ([], 0) = (marked M (x :: l)).getD j ([], 0) ↔ (marked M (x :: l')).getD i ([], 0) = (marked M (x :: l')).getD j ([], 0)
  rw [marked_getD hi, marked_getD hj, marked_getD hi, marked_getD hj]
  have step : ∀ (l : Log) (s : Nat), markedAt M (x :: l) s = markedAt M l (stp M x s) := fun l s => by
    unfold markedAt
    rw [way_cons, if_neg hne]
  rw [step, step, step, step]
  have k := hM.in_ks hx
  rw [← rest_iff (hM.stp_lt k hi) (hM.stp_lt k hj), ← rest_iff (hM.stp_lt k hi) (hM.stp_lt k hj), ef]
/-- every log's mark is among the found -/
theorem fl_all {mk : Log → NestedKey} {ah : Bool} {N : Nat} {ls : List Log} (D : FlDone M mk ah N ls) (C : Cong M mk ah) : ∀ (n : Nat) (l : Log), l.length = n → LN M l → ∃ l' ∈ ls, mk l' = mk l
  | 0, l, hn, _ => by
    have e : l = [] := List.eq_nil_of_length_eq_zero hn
    subst e
    exact ⟨[], D.one, rfl⟩
  | n + 1, l, hn, hl => by
    obtain ⟨l0, x, rfl⟩ : ∃ l0 x, l = ext ah l0 x := by
      cases ah
      · exact ⟨l.dropLast, l.getLast (fun e => by rw [e] at hn; cases hn), (List.dropLast_concat_getLast _).symm⟩
      · cases l with
        | nil => cases hn
        | cons x l => exact ⟨l, x, rfl⟩
    rw [ext_len] at hn
    have h0 : LN M l0 ∧ x ∈ M.nms := by
      unfold ext at hl
      cases ah
      · exact ⟨fun y hy => hl y (List.mem_append_left _ hy), hl x (List.mem_append_right _ (List.mem_singleton.mpr rfl))⟩
      · exact ⟨fun y hy => hl y (List.mem_cons_of_mem _ hy), hl x (List.mem_cons_self ..)⟩
    obtain ⟨l1, h1, e1⟩ := fl_all D C n l0 (Nat.succ.inj hn) h0.1
    have := D.clo l1 h1 x h0.2
    obtain ⟨l2, h2, e2⟩ := List.mem_map.mp this
    exact ⟨l2, h2, e2.trans (C l1 l0 x (D.ln l1 h1).1 h0.1 h0.2 e1)⟩
/-- what was found tells of all -/
theorem no_tw (hM : M.Ok) {N : Nat} {ls1 ls2 ls3 : List Log} (D1 : FlDone M (mk1 M) false N ls1) (D2 : FlDone M (mk2 M) false N ls2) (D3 : FlDone M (mk3 M) true N ls3)
    (h : ∀ sl ∈ ls1, ∀ ml ∈ ls2, ∀ el ∈ ls3, ∀ a ∈ M.nms, ∀ b ∈ M.nms, areTw M (img M sl (every M)) (tab M ml) (rest M el) a b = false) : NoTw M := fun sl ml el h1 h2 h3 a ha b hb => by
  obtain ⟨s', hs, es⟩ := fl_all D1 (cong1 hM) _ sl rfl h1
  obtain ⟨m', hm, em⟩ := fl_all D2 (cong2 hM) _ ml rfl h2
  obtain ⟨e', he, ee⟩ := fl_all D3 (cong3 hM) _ el rfl h3
  have q1 := inj_kTN es
  have q2 := inj_kTN em
  have q3 : rest M e' = rest M el := by
    unfold rest
    rw [inj_kB ee]
  rw [← q1, ← q2, ← q3]
  exact h s' hs m' hm e' he a ha b hb
end
end K7
/-! twins: the calls of first_logs with a lambda; by_size; the walk. -/
namespace K7
open PySem PySem.Spec PyProof.Rows L2 LamX
/-! ### frames past which code tables change -/
structure NxT (T : List (Addr × Str)) (B H B' H' : Hp) : Prop where
  h : ExtN H H'
  b : Same B B'
  s : Same B' H'
  o : ∀ a xs, H a = some (.lst xs) → B a = none → B' a = none
  nt : NoT B'
  tb : Tabs T H'
theorem NxT.refl {T : List (Addr × Str)} {B H : Hp} (s : Same B H) (n : NoT B) (t : Tabs T H) : NxT T B H B H := ⟨ExtN.refl H, Same.refl B, s, fun _ _ _ h => h, n, t⟩
theorem NxT.nx {T : List (Addr × Str)} {B H B1 H1 B2 H2 : Hp} (x : NxT T B H B1 H1) (y : Nx B1 H1 B2 H2) : NxT T B H B2 H2 :=
  ⟨x.h.trans (ExtN.of y.h), x.b.trans y.b, y.s, fun a xs h hb => (y.o a (by rw [x.h a _ h (fun ps z => by cases z)]; exact fun z => by cases z)).trans (x.o a xs h hb), x.nt.nx y, x.tb.ext y.h⟩
theorem NxT.trans {T : List (Addr × Str)} {B H B1 H1 B2 H2 : Hp} (x : NxT T B H B1 H1) (y : NxT T B1 H1 B2 H2) : NxT T B H B2 H2 :=
  ⟨x.h.trans y.h, x.b.trans y.b, y.s, fun a xs h hb => y.o a xs (x.h a _ h (fun ps z => by cases z)) (x.o a xs h hb), y.nt, y.tb⟩
theorem same_ext {B H H' : Hp} (s : Same B H) (n : NoT B) (e : ExtN H H') : Same B H' := fun a o h => e a o (s a o h) fun ps z => n a ps (by rw [h, z])
theorem some_ne {H : Hp} {a : Addr} {o : HO} (h : H a = some o) : H a ≠ none := fun z => by
  rw [h] at z
  cases z
/-- what is seen, and a code object -/
def bz (B H1 : Hp) (c : Addr) : Hp := fun a => if a = c then H1 c else B a
theorem bz_same {B H1 : Hp} {c : Addr} (n : ∀ a o, B a = some o → H1 a = some o) : Same (bz B H1 c) H1 := fun a o e => by
  unfold bz at e
  by_cases h : a = c
  · subst h
    rwa [if_pos rfl] at e
  · rw [if_neg h] at e
    exact n a o e
theorem bz_of {B H1 : Hp} {c : Addr} (n : ∀ a o, B a = some o → H1 a = some o) : Same B (bz B H1 c) := fun a o e => by
  unfold bz
  by_cases h : a = c
  · subst h
    rw [if_pos rfl]
    exact n _ o e
  · rw [if_neg h]
    exact e
theorem bz_nt {B H1 : Hp} {c : Addr} {q : Str} (n : NoT B) (hc : H1 c = some (CodeO c q)) : NoT (bz B H1 c) := fun a ps e => by
  unfold bz at e
  by_cases h : a = c
  · rw [if_pos h, hc] at e
    exact codeO_ne ps (by injection e)
  · rw [if_neg h] at e
    exact n a ps e
theorem bz_no {B H1 : Hp} {c a : Addr} {q : Str} {xs : List V} (ha : H1 a = some (.lst xs)) (hc : H1 c = some (CodeO c q)) (hb : B a = none) : bz B H1 c a = none := by
  unfold bz
  by_cases h : a = c
  · subst h
    rw [hc] at ha
    unfold CodeO at ha
    cases ha
  · rw [if_neg h]
    exact hb
section
variable {X : Cx} {σ : L2.St} {B H : Hp} {Q : VK} {p pm lpos pc pos : Pos}
set_option maxHeartbeats 4000000 in
/-- first_logs(machine, lambda log: .., ahead) -/
theorem w_fl {C : Addr} {params : Arguments} {body : Expr} {scope : Scope} {ah : Bool} {kk : Nat} {rest : List Str} {M : Mac} {mk : Log → NestedKey} {N : Nat} {vm : V} {T : List (Addr × Str)} {c Pt : Addr} (Lb : Bl X.mg) (Mt : Mth X.prog X.w X.K X.mg X.base C) (D : Gd X.K X.mg "first_logs" (topS 38) []) (hr : Room 8 X.A)
    (sb : Same B H) (nt : NoT B) (tb : Tabs T H) (TB : TabB X.base X.mg c Pt) (hcode : X.env.code = .ref c) (hmT : (Pt, X.env.qual ++ "<lambda>") ∈ T) (huT : ∀ q ∈ T, q.1 = Pt → q.2 = X.env.qual ++ "<lambda>")
    (L : LamP X.env.scope scope "log" "machine") (hNd : (("log" : Str) :: "machine" :: rest).Nodup) (hdef : defaultsOf params X.env = ([], []))
    (hbind : ∀ (cl : List (Str × Addr)) (pm ctv : Value) (c' : Addr) (u : Value), bindArgs (PySem.W.kla_fn "<lambda>" (X.env.qual ++ "<lambda>") params body scope cl pm (.ref c') ctv) ⟨[u], []⟩ = pure [(("log" : Str), u)])
    (hst : X.stack = X.env :: X.outer ∧ X.env.frame = some X.env.locals)
    (hs : σ[0]? = some (some vm)) (hN0 : X.N[0]? = some ("machine" : Str)) (hv0 : Vis X.env.scope "machine") (h1 : (machM X.K C M).p vm B) (hM : M.Ok) (hk2 : M.nms.length ≤ 2) (hk : MkOk M mk N)
    (lam : ∀ (z : LZ) (l : Log) (v : V) (B' : Hp), Room 6 (lzCx X ("log" :: "machine" :: rest) scope z).A → Same B B' → LN M l → l.length ≤ 31 → Dp X.K B' v (eTS l) → EV (lzCx X ("log" :: "machine" :: rest) scope z) body (L2.start ("log" :: "machine" :: rest) [v, vm]) B' (dt X.K (mk l).data))
    (hQ : ∀ v B1 H1, NxT T B H B1 H1 → (flM X.K X.prog X.w M mk ah N).p v B1 → Q v H1) (hg : Gl X "first_logs" := by rfl)
    (he : starEach [.Name "machine" pm, .Lambda params body scope lpos, .Constant (.bool ah) kk pc] X.env = [(false, eval (.Name "machine" pm) X.env), (false, eval (.Lambda params body scope lpos) X.env), (false, eval (.Constant (.bool ah) kk pc) X.env)] := by rfl) :
    wE X (.Call (.Name "first_logs" p) [.Name "machine" pm, .Lambda params body scope lpos, .Constant (.bool ah) kk pc] [] pos) σ H Q := by
  refine wE_i fun pins s I => ?_
  obtain ⟨g, ⟨fd, FD⟩, hmg⟩ := D.ex
  have hbd := FD.bindsN (ps := ["machine", "mark_of", "ahead"]) (fun _ _ _ _ _ _ us hl => match us, hl with | [_, _, _], _ => rfl)
  have kp := FD.kp
  obtain ⟨oc, od, dV, kV, doc, pmv, an, cdv, ct, osl, efd, lk, hcd, hD, hK⟩ := FD.ex
  subst efd
  refine wpAny_Call_Name_kw (ld_glob I hg hmg ?_ (by decide))
  refine PySem.W.callWith_K (h₀ := X.base) I.ok.mod.kin kp ?_ (by rfl) (by rfl)
  rw [he]
  show wpAny _ _ (spliced [(false, eval (.Name "machine" pm) X.env), (false, eval (.Lambda params body scope lpos) X.env), (false, eval (.Constant (.bool ah) kk pc) X.env)]) _ _ s
  refine Calls.spliced_cons (thn ((pe_var (pos := pm) (i := 0) hN0 hv0 (by decide) (by decide)).run pins s σ H (fun v H1 => v = vm ∧ H = H1) I ⟨vm, hs, rfl, rfl⟩) fun um s0 ⟨v, H0, I0, r0, ev, eH⟩ => ?_)
  subst ev eH
  refine Calls.spliced_cons (lam_make2 I0 TB hcode hmT huT tb hdef (fun y hy e => ?_) fun f c' pmv2 ctv H1 s' I1 eN T1 hf hfn hfr hco => ?_)
  · have := L.fr y hy e
    rw [this]
    exact I0.ok.has _ (.inl L.sc)
  have fl : f ≠ X.env.locals ∧ f ∉ X.fs := by
    rw [hst.1] at hfr
    constructor
    · intro e
      refine hfr ?_
      show f ∈ frs (X.env :: X.outer)
      unfold frs
      rw [List.filterMap_cons, hst.2]
      exact List.mem_cons.mpr (.inl e)
    · intro e
      refine hfr ?_
      show f ∈ frs (X.env :: X.outer)
      unfold frs
      rw [List.filterMap_cons, hst.2]
      exact List.mem_cons_of_mem _ e
  have IP : Inv X (pins ++ [(f, PySem.W.kla_obj "<lambda>" (X.env.qual ++ "<lambda>") params body scope (cloFrom X.env.cells scope.names []) pmv2 c' ctv)]) σ H1 s' := I1.pins_of fun q hq => by
    rcases List.mem_append.mp hq with h | h
    · exact I1.pin q (List.mem_append_right _ h)
    · have e := List.mem_singleton.mp h
      subst e
      exact ⟨hf, hfn, fl.1, fl.2, fun v z => by cases z⟩
  refine Calls.spliced_cons (thn ((pe_bl (X := X) (b := ah) (j := kk) (pos := pc)).run _ s' σ H1 (fun v H2 => v = .bl ah ∧ H1 = H2) IP ⟨rfl, rfl⟩) fun ub s2 ⟨vb, H2, I2, r2, ev, eH⟩ => ?_)
  subst ev eH
  have hf2 := (pinned I2 (List.mem_singleton.mpr rfl)).1
  have I3 := I2.unpinned
  refine Calls.spliced_nil ⟨I3.kIn, ?_⟩
  -- what is seen at the call
  have nB : ∀ a o, B a = some o → H1 a = some o := same_ext sb nt eN
  have sz : Same (bz B H1 c') H1 := bz_same nB
  have sB : Same B (bz B H1 c') := bz_of nB
  have ntz : NoT (bz B H1 c') := bz_nt nt hco
  have rc : codeAny (model X.prog X.w) X.A (.call (.ref g) ⟨[um, .ref f, ub], []⟩) (CR CX0 X.stack X.prog X.w H1 s2 Q E0) s2 := by
    refine run_ofS (N := sFl) (ps := ["machine", "mark_of", "ahead"]) (us := [um, .ref f, ub]) (vs := [v, .ref f, .bl ah]) lk hcd scFl hr I3.env0 (hbd s2 [um, .ref f, ub] I3.kIn rfl) (.cons r0 (.cons rfl (.cons r2 .nil))) rfl fun hr' => ?_
    refine ⟨_, PSs.nox pb_w, b_imp (fl_body (P := X.prog) (w := X.w) (K := X.K) (mg := X.mg) (base := X.base) (C := C) (ah := ah) (mk := mk) (N := N) (M := M) (f := f) (vm := v) Lb Mt ⟨g, cdv, X.A, X.stack, s2, H1, E0⟩ hr' sz hM hk2 ((machM X.K C M).mono sB h1) hk ?_) (fun σ' H' ⟨B1, x, r⟩ => ?_) (fun w H' ⟨B1, x, r⟩ => ?_) (fun _ _ z => z.elim) fun _ _ z => z.elim⟩
    · intro e p1 p2 l σ' B' hst' hs1 sB' hln hlen hev H' sH Q' q'
      refine w_act1 (i := 1) (iy := 0) (k := 6) (a := "mark_of") I3 L hNd hf2 hfn hfr (fun cl u => hbind cl pmv2 ctv c' u) hN0 hs hr' hs1 (hev H' sH _ fun w B1 H1' x1 pw => ⟨?_, fun z hrz => ?_⟩) (he := hst')
      · exact x1.s _ _ (x1.b _ _ (sB' _ _ ((if_pos rfl).trans hco)))
      · exact lam z l w B1 hrz (sB.trans (sB'.trans x1.b)) hln hlen pw H1' x1.s Q' fun v2 B2 H2 x2 p2 => q' v2 B2 H2 (x1.trans x2) p2
    · exact hQ _ B1 H' ⟨eN.trans (ExtN.of x.h), sB.trans x.b, x.s, fun a xs h hb => (x.o a (some_ne (eN a _ h (fun ps z => by cases z)))).trans (bz_no (eN _ _ h (fun ps z => by cases z)) hco hb), ntz.nx x, T1.ext x.h⟩ r
    · exact hQ _ B1 H' ⟨eN.trans (ExtN.of x.h), sB.trans x.b, x.s, fun a xs h hb => (x.o a (some_ne (eN a _ h (fun ps z => by cases z)))).trans (bz_no (eN _ _ h (fun ps z => by cases z)) hco hb), ntz.nx x, T1.ext x.h⟩ r
  refine wpAny_call (codeAny_mono rc fun r s' hq => ?_)
  cases r with
  | error e => exact hq.elim
  | ok fl =>
    cases fl with
    | ret u => exact I3.after hq
    | next => exact hq.elim
    | brk => exact hq.elim
    | cont => exact hq.elim
end
end K7
/-! by_size; the lambdas of twins. -/
namespace K7
open PySem PySem.Spec PyProof.Rows L2 LamX
abbrev bySz (l : Log) : PyData := .tuple [eN l.length, eTS l]
abbrev spBy (K : PySem.W.Frag) : Sp := spD (fun l : Log => [dt K (eTS l)]) (fun _ => True) (fun l => dt K (bySz l))
section
variable {P : Program} {w : World} {K : PySem.W.Frag} {mg : Str → Option Value} {base : Heap} {C : Addr}
theorem scBy : FnScope ["log"] ["log"] (defScope (topS 20)) := ⟨rfl, rfl, rfl, by decide +kernel, rfl, by decide +kernel, by decide +kernel⟩
theorem ok_by (L : Bl mg) (D : Gd K mg "by_size" (topS 20) []) : Gf P w K mg base 1 "by_size" (spBy K) :=
  D.pure scBy (fun _ => rfl) (fun _ _ _ _ _ _ us hl => match us, hl with | [_], _ => rfl) fun z vs B l hp ha sb hr => by
    obtain ⟨va, rfl, h1⟩ := allM1 ha
    refine b_cons (s_retD (Nx.refl sb) (EV.is (ev_tup (X := fx P w K mg base ["log"] "by_size" (topS 20) z) (ds := [.int ((l.map eS).length : Nat), eTS l]) (ea_cons (ev_lenT L.len (ev_var 0 rfl h1)) (ea_cons (ev_tupleT L.tuple (ev_var 0 rfl h1)) ea_nil)) (show 2 ≤ 100000 by decide)) ?_))
    rw [List.length_map]
end
theorem alike_by (l m : Log) : PySem.W.alike (bySz l) (bySz m) = true := by
  have := alike_eTS l m
  simp [PySem.W.alike, PySem.W.alikeAll] at this ⊢
  exact this
theorem depth_by (l : Log) : (bySz l).depth ≤ 10 := by
  have : ∀ l : Log, PyData.depthAll (l.map eS) = 0 := by
    intro l
    induction l with
    | nil => simp [PyData.depthAll]
    | cons x l ih => simp [PyData.depthAll, PyData.depth, ih]
  have e := this l
  simp [PyData.depth, PyData.depthAll, e]
section
variable {X : Cx} {a b : Expr} {σ : L2.St} {B : Hp} {p pl kp kpos pos : Pos}
/-- one of two logs -/
def oneM (K : PySem.W.Frag) (l m : Log) : Mp := ⟨fun v B => Dp K B v (eTS l) ∨ Dp K B v (eTS m), fun s h => h.imp (dp_same s) (dp_same s)⟩
/-- min([a, b], key=by_size) -/
theorem ev_minBy {l m : Log} (hc : X.calm = true) (G : Gf X.prog X.w X.K X.mg X.base 1 "by_size" (spBy X.K)) (hr : Room 2 X.A) (hm : X.mg "min" = none) (ha : EV X a σ B (dt X.K (eTS l))) (hb : EV X b σ B (dt X.K (eTS m))) (hg : Gl X "min" := by rfl) (hg2 : Gl X "by_size" := by rfl)
    (h1 : starEach [a, b] X.env = (false, eval a X.env) :: starEach [b] X.env := by rfl) (h2 : starEach [b] X.env = (false, eval b X.env) :: starEach [] X.env := by rfl)
    (h3 : starEach [.List [a, b] pl] X.env = (false, eval (.List [a, b] pl) X.env) :: starEach [] X.env := by rfl)
    (he : backTo pos (starEach [.List [a, b] pl] X.env) = (false, eval (.List [a, b] pl) X.env) :: backTo pos (starEach [] X.env) := by rfl) (hpl : (backTo pos (starEach [.List [a, b] pl] X.env)).any (·.1) = false := by rfl)
    (hall : (backToKw pos (keywordEach [⟨some "key", .Name "by_size" kp, kpos⟩] X.env)).all (·.1.isSome) = true := by rfl) (hnone : (backToKw pos (keywordEach [⟨some "key", .Name "by_size" kp, kpos⟩] X.env)).any (·.1.isNone) = false := by rfl) (hks : (backToKw pos (keywordEach [⟨some "key", .Name "by_size" kp, kpos⟩] X.env)).filterMap (·.1) = [Str.ofString "key"] := by rfl) :
    EV X (.Call (.Name "min" p) [.List [a, b] pl] [⟨some "key", .Name "by_size" kp, kpos⟩] pos) σ B (oneM X.K l m) := by
  obtain ⟨f, F, hmg⟩ := G.ex
  have hcall : CallRK X (.builtin "min") [Str.ofString "key"] (fun vs zs H Q => ∃ (a : Addr) (x0 x1 : V) (B' : Hp), vs = [.ref a] ∧ zs = [.ref f] ∧ Same B' H ∧ SqL X.K B' a [x0, x1] ∧ Dp X.K B' x0 (eTS l) ∧ Dp X.K B' x1 (eTS m) ∧ ∀ v B1 H1, Nx B' H B1 H1 → (v = x0 ∨ v = x1) → Q v H1) := by
    intro pins s σ H xs zs us ws Q I r rz h
    obtain ⟨a, x0, x1, B', rfl, rfl, sB, hl, h0, h1, hQ⟩ := h
    rw [Vals.ref1 r, Vals.ref1 rz]
    exact min_two I (I.ok.hd hc) hr.u65 sB hl F.raw hr (fun B2 s2 => rs_d l ⟨dp_same s2 h0, True.intro⟩ True.intro) (fun B2 s2 => rs_d m ⟨dp_same s2 h1, True.intro⟩ True.intro) (alike_by m l) (fun e => by cases e) (depth_by m) hQ
  refine ev_of (pe_callBK hcall hg hm (by decide +kernel) (pa_cons (pe_lst (pa_cons pe_w (pa_cons pe_w pa_nil h2) h1)) pa_nil h3) (pk_cons (pe_glob hg2 hmg (show RelV (.ref f) _ from rfl) (by decide)) pk_nil) (by decide) (by decide) he hpl hall hnone hks) fun H s Q q => ?_
  refine ha H s _ fun v B1 H1 x1 pv => EV.mono x1.b hb H1 x1.s _ fun u B2 H2 x2 pu => ⟨show 2 ≤ sizeLine by decide, fun r hp => ?_⟩
  have x3 := (Nx.refl x2.s).put (o := .lst [v, u]) hp
  have pv' := dp_same (x2.b.trans x3.b) pv
  have pu' := dp_same x3.b pu
  refine ⟨r, v, u, _, rfl, rfl, x3.s, .inl (.inl upd_same), pv', pu', fun w B4 H4 x4 hw => q w B4 H4 (x1.trans (x2.trans (x3.trans x4))) ?_⟩
  rcases hw with e | e
  · rw [e]
    exact .inl (dp_same x4.b pv')
  · rw [e]
    exact .inr (dp_same x4.b pu')
end
end K7
/-! The walk of twins. -/
namespace K7
open PySem PySem.Spec PyProof.Rows L2 LamX
/-- a def of the module with its own code object -/
structure GdT (K : PySem.W.Frag) (mg : Str → Option Value) (x : Str) (st : Stmt) (c : Addr) : Prop where
  ex : ∃ (f : Addr) (oc : Value) (od : Option Addr) (kV doc pm : Value) (an : Option Addr) (ct : Value) (osl : Array (Option Value)), K.lookup f = some ⟨oc, od, .func (PySem.W.fnOf x x (defArgs st) (defBody st) (defScope st) .none kV doc pm an (.ref c) ct), osl⟩ ∧ PySem.W.codeIn K (.ref c) x = true ∧ PySem.W.keepIn K (.ref f) = true ∧ mg x = some (.ref f)
theorem GdT.any {P : Program} {w : World} {K : PySem.W.Frag} {mg : Str → Option Value} {base : Heap} {x : Str} {st : Stmt} {N ps : List Str} {k : Nat} {sp : Sp} {c : Addr} (D : GdT K mg x st c) (S : FnScope N ps (defScope st)) (len : ∀ vs H Q E, sp vs H Q E → vs.length = ps.length) (hb : BindOk x x st ps)
    (body : ∀ (z : Fz) (vs : List V) (Q : VK), z.cd = .ref c → Room k (fx P w K mg base N x st z).A → sp vs z.H Q z.E → wB (fx P w K mg base N x st z) (defBody st) { nx := fun _ H' => Q .non H', rt := Q } (L2.start N vs) z.H) : Gf P w K mg base (k + 1) x sp := by
  obtain ⟨f, oc, od, kV, doc, pm, an, ct, osl, lk, hcd, kp, hm⟩ := D.ex
  refine ⟨f, ⟨_, ps, [], [], sp, fn_of (N := N) lk hcd S len fun A outer s H vs Q E hr h => ⟨_, PSs.nox pb_w, body ⟨f, .ref c, A, outer, s, H, E⟩ vs Q rfl hr h⟩, kp, .all (hb kV doc pm an (.ref c) ct), .nil, fun vs H Q E h => by rw [List.append_nil]; exact h⟩, hm⟩
/-- items by what they come from -/
theorem sn_mapI {X : Cx} {tg iter : Expr} {σ : L2.St} {B : Hp} {ι κ : Type} {S : ι → Mp} (F : κ → ι) {l : List κ} (h : SN X tg iter σ B (l.map F) S) : SN X tg iter σ B l fun a => S (F a) := fun H s R r => h H s R fun J B1 H1 x1 w => r J B1 H1 x1 (by
  rw [List.length_map] at w
  exact w.mono (fun _ s => s) fun i H' v H'' _ _ ⟨sy, it, B2, e, x, g⟩ => by
    rw [List.getElem?_map] at e
    cases e2 : l[i]? with
    | none =>
      rw [e2] at e
      cases e
    | some a =>
      rw [e2] at e
      cases e
      exact ⟨sy, a, B2, rfl, x, g⟩)
/-- what twins answers -/
def twM (K : PySem.W.Frag) (M : Mac) : Mp := ⟨fun v B => (Dp K B v .none ∧ NoTw M) ∨ ∃ l p q, [p, q] ∈ twinPairs M l ∧ LN M l ∧ l.length ≤ 200 ∧ Dp K B v (thingD l [p, q]), fun s h => h.imp (fun ⟨a, b⟩ => ⟨dp_same s a, b⟩) fun ⟨l, p, q, a, b, c, d⟩ => ⟨l, p, q, a, b, c, dp_same s d⟩⟩
abbrev spTw (K : PySem.W.Frag) (C : Addr) (T : List (Addr × Str)) : Sp := fun vs H Q _ => ∃ (M : Mac) (B : Hp) (vm : V), vs = [vm] ∧ Same B H ∧ NoT B ∧ Tabs T H ∧ (machM K C M).p vm B ∧ M.Ok ∧ M.nms.length ≤ 2 ∧ M.n ≤ 3 ∧ ∀ v B1 H1, NxT T B H B1 H1 → (twM K M).p v B1 → Q v H1
abbrev sTw : List Str := ["machine", "starts", "maps", "ends", "after", "rests", "best", "states", "ahead", "moves", "between", "marks", "one", "other", "log", "blocks"]
theorem scTw : FnScope sTw ["machine"] (defScope (topS 41)) := ⟨rfl, rfl, rfl, by decide +kernel, rfl, by decide +kernel, by decide +kernel⟩
def GoodB (M : Mac) (l : Log) : Prop := LN M l ∧ l.length ≤ 200 ∧ ∃ p q, [p, q] ∈ twinPairs M l
def bestD : Option Log → PyData
  | none => .none
  | some l => eTS l
section
variable {P : Program} {w : World} {K : PySem.W.Frag} {mg : Str → Option Value} {base : Heap} {C : Addr}
set_option maxHeartbeats 4000000 in
theorem tw_start (L : Bl mg) (Mt : Mth P w K mg base C) (Dfl : Gd K mg "first_logs" (topS 38) []) (Gim : Gf P w K mg base 4 "image" (spImg2 K C)) {T : List (Addr × Str)} {c Pt : Addr} (TB : TabB base mg c Pt) (hmT : (Pt, (("twins" : Str) ++ ".<locals>.") ++ "<lambda>") ∈ T) (huT : ∀ q ∈ T, q.1 = Pt → q.2 = (("twins" : Str) ++ ".<locals>.") ++ "<lambda>")
    (z : Fz) (hz : z.cd = .ref c) (hr : Room 8 (fx P w K mg base sTw "twins" (topS 41) z).A) {B H : Hp} {σ : L2.St} {vm : V} {M : Mac} (hs : σ[0]? = some (some vm)) (sb : Same B H) (nt : NoT B) (tb : Tabs T H) (h1 : (machM K C M).p vm B) (hM : M.Ok) (hk2 : M.nms.length ≤ 2) (h3 : M.n ≤ 3) {D : Ends} {rest : List Stmt}
    (k : ∀ v B1 H1, NxT T B H B1 H1 → (flM K P w M (mk1 M) false 27).p v B1 → wB (fx P w K mg base sTw "twins" (topS 41) z) ((defBody (topS 41)).drop 1) D (σ.set 1 (some v)) H1) : wB (fx P w K mg base sTw "twins" (topS 41) z) (defBody (topS 41)) D σ H := by
  refine b_cons (s_of (ps_set scTw.nd (i := 1) rfl (.inl rfl) pe_w rfl (.inr rfl)) (w_fl (X := fx P w K mg base sTw "twins" (topS 41) z) (rest := []) (N := 27) (mk := mk1 M) L Mt Dfl hr sb nt tb TB hz hmT huT ?_ (by decide) rfl (fun _ _ _ _ _ => rfl) ⟨rfl, rfl⟩ hs rfl (.inr (.inl rfl)) h1 hM hk2 (mk1_ok hM h3) (fun zl l v B' hrz sB hln hlen hv => ?_) (fun v B1 H1 x1 p1 => k v B1 H1 x1 p1)))
  · exact ⟨rfl, rfl, rfl, .inl ⟨rfl, by decide +kernel⟩, rfl, by decide +kernel, by decide +kernel, by decide, fun cells c h => by simp [cloFrom, h], rfl⟩
  · show EV _ _ _ _ (dt K (kTN (img M l (every M))).data)
    rw [data_kTN]
    exact ev_cal (X := lzCx (fx P w K mg base sTw "twins" (topS 41) z) ["log", "machine"] _ zl) (t := (M, l)) Gim (hrz.mono (by decide)) (ea_cons (ev_var 1 rfl ((machM K C M).mono sB h1)) (ea_cons (ev_var 0 rfl hv) ea_nil)) ⟨hM, hln.ok hM (by omega)⟩
set_option maxHeartbeats 4000000 in
theorem tw_maps (L : Bl mg) (Mt : Mth P w K mg base C) (Dfl : Gd K mg "first_logs" (topS 38) []) (Ggo : ∃ g, StX.CallO K C g ∧ Fo P w K mg base 4 g (spGo K C)) {T : List (Addr × Str)} {c Pt : Addr} (TB : TabB base mg c Pt) (hmT : (Pt, (("twins" : Str) ++ ".<locals>.") ++ "<lambda>") ∈ T) (huT : ∀ q ∈ T, q.1 = Pt → q.2 = (("twins" : Str) ++ ".<locals>.") ++ "<lambda>")
    (z : Fz) (hz : z.cd = .ref c) (hr : Room 8 (fx P w K mg base sTw "twins" (topS 41) z).A) {B H : Hp} {σ : L2.St} {vm : V} {M : Mac} (hs : σ[0]? = some (some vm)) (sb : Same B H) (nt : NoT B) (tb : Tabs T H) (h1 : (machM K C M).p vm B) (hM : M.Ok) (hk2 : M.nms.length ≤ 2) (h3 : M.n ≤ 3) {D : Ends} {rest : List Stmt}
    (k : ∀ v B1 H1, NxT T B H B1 H1 → (flM K P w M (mk2 M) false 27).p v B1 → wB (fx P w K mg base sTw "twins" (topS 41) z) ((defBody (topS 41)).drop 2) D (σ.set 2 (some v)) H1) : wB (fx P w K mg base sTw "twins" (topS 41) z) ((defBody (topS 41)).drop 1) D σ H := by
  refine b_cons (s_of (ps_set scTw.nd (i := 2) rfl (.inl rfl) pe_w rfl (.inr rfl)) (w_fl (X := fx P w K mg base sTw "twins" (topS 41) z) (rest := ["state"]) (N := 27) (mk := mk2 M) L Mt Dfl hr sb nt tb TB hz hmT huT ?_ (by decide) rfl (fun _ _ _ _ _ => rfl) ⟨rfl, rfl⟩ hs rfl (.inr (.inl rfl)) h1 hM hk2 (mk2_ok hM h3) (fun zl l v B' hrz sB hln hlen hv => ?_) (fun v B1 H1 x1 p1 => k v B1 H1 x1 p1)))
  · exact ⟨rfl, rfl, rfl, .inr ⟨rfl, fun n acc => rfl, fun h => rfl⟩, rfl, by decide +kernel, by decide +kernel, by decide, fun cells c h => by simp [cloFrom, h], rfl⟩
  · show EV _ _ _ _ (dt K (kTN (tab M l)).data)
    rw [data_kTN]
    obtain ⟨g, hgo, Fgo⟩ := Ggo
    have h1 := (machM K C M).mono sB h1
    have hnd : (("log" : Str) :: "machine" :: ["state"]).Nodup := by decide
    refine EV.is (ev_tupleL (X := lzCx (fx P w K mg base sTw "twins" (topS 41) z) ["log", "machine", "state"] _ zl) L.tuple (ev_lcM (own := [("state", 2)]) (g := fun s => eN (run M s l)) rfl hnd (blkOk_by (by kernel_rfl)) (sn_range L.range (ev_many (X := lzCx (fx P w K mg base sTw "twins" (topS 41) z) ["log", "machine", "state"] _ zl) Mt (hrz.mono (by decide)) (ev_var 1 rfl h1)) (by omega)) (by rw [List.length_range]; omega)
      fun s hs B2 s2 v' hv' => ⟨[some v, some vm, some v'], rfl, fun zz H' _ => tj_name 2 hnd, fun zz => ?_⟩)) ?_
    · refine ev_callOwn (X := bx (lzCx (fx P w K mg base sTw "twins" (topS 41) z) ["log", "machine", "state"] _ zl) _ zz) (Ps := [dt K (eN s), dt K (eTS l)]) (M := M) hgo Fgo (hrz.mono (by decide)) (ev_var 1 rfl ((machM K C M).mono s2 h1)) (ea_cons (ev_var 2 rfl hv') (ea_cons (ev_var 0 rfl (dp_same s2 hv)) ea_nil)) fun v5 vs B5 hm hvs => ?_
      exact rs_d (M, s, l) ⟨hm, hvs⟩ ⟨hM, List.mem_range.mp hs, hln.ok hM (by omega)⟩
    · exact congrArg PyData.tuple (mapc _ _ _)
set_option maxHeartbeats 4000000 in
theorem tw_ends (L : Bl mg) (Mt : Mth P w K mg base C) (Dfl : Gd K mg "first_logs" (topS 38) []) (Gbe : Gf P w K mg base 5 "behind" (spBeh K C)) {T : List (Addr × Str)} {c Pt : Addr} (TB : TabB base mg c Pt) (hmT : (Pt, (("twins" : Str) ++ ".<locals>.") ++ "<lambda>") ∈ T) (huT : ∀ q ∈ T, q.1 = Pt → q.2 = (("twins" : Str) ++ ".<locals>.") ++ "<lambda>")
    (z : Fz) (hz : z.cd = .ref c) (hr : Room 8 (fx P w K mg base sTw "twins" (topS 41) z).A) {B H : Hp} {σ : L2.St} {vm : V} {M : Mac} (hs : σ[0]? = some (some vm)) (sb : Same B H) (nt : NoT B) (tb : Tabs T H) (h1 : (machM K C M).p vm B) (hM : M.Ok) (hk2 : M.nms.length ≤ 2) (h3 : M.n ≤ 3) {D : Ends} {rest : List Stmt}
    (k : ∀ v B1 H1, NxT T B H B1 H1 → (flM K P w M (mk3 M) true 27).p v B1 → wB (fx P w K mg base sTw "twins" (topS 41) z) ((defBody (topS 41)).drop 3) D (σ.set 3 (some v)) H1) : wB (fx P w K mg base sTw "twins" (topS 41) z) ((defBody (topS 41)).drop 2) D σ H := by
  refine b_cons (s_of (ps_set scTw.nd (i := 3) rfl (.inl rfl) pe_w rfl (.inr rfl)) (w_fl (X := fx P w K mg base sTw "twins" (topS 41) z) (rest := []) (N := 27) (mk := mk3 M) L Mt Dfl hr sb nt tb TB hz hmT huT ?_ (by decide) rfl (fun _ _ _ _ _ => rfl) ⟨rfl, rfl⟩ hs rfl (.inr (.inl rfl)) h1 hM hk2 (mk3_ok hM h3) (fun zl l v B' hrz sB hln hlen hv => ?_) (fun v B1 H1 x1 p1 => k v B1 H1 x1 p1)))
  · exact ⟨rfl, rfl, rfl, .inl ⟨rfl, by decide +kernel⟩, rfl, by decide +kernel, by decide +kernel, by decide, fun cells c h => by simp [cloFrom, h], rfl⟩
  · show EV _ _ _ _ (dt K (kB (blocksL (firsts (marked M l)))).data)
    rw [data_kB]
    exact ev_cal (X := lzCx (fx P w K mg base sTw "twins" (topS 41) z) ["log", "machine"] _ zl) (t := (M, l)) Gbe (hrz.mono (by decide)) (ea_cons (ev_var 1 rfl ((machM K C M).mono sB h1)) (ea_cons (ev_var 0 rfl hv) ea_nil)) ⟨hM, hln.ok hM (by omega)⟩
end
end K7
/-! The walk of twins, its end. -/
namespace K7
open PySem PySem.Spec PyProof.Rows L2 LamX
theorem take_snoc {α : Type} {l : List α} {i : Nat} {a : α} (h : l[i]? = some a) {F : α → Prop} (g : ∀ x ∈ l.take i, F x) (fa : F a) : ∀ x ∈ l.take (i + 1), F x := fun x hx => by
  rw [List.take_add_one, h] at hx
  rcases List.mem_append.mp hx with e | e
  · exact g x e
  · rw [List.mem_singleton.mp e]
    exact fa
def fbL (l : List Stmt) : List Stmt := match l with
  | .For _ _ b _ _ :: _ => b
  | _ => []
theorem dp_pair {K : PySem.W.Frag} {H : Hp} {v : V} {d e : PyData} (h : Dp K H v (.tuple [d, e])) : ∃ T a b, v = .ref T ∧ SqT K H T [a, b] ∧ Dp K H a d ∧ Dp K H b e := by
  obtain ⟨T, as, e1, qT, da⟩ := dp_t h
  cases da with
  | cons h1 t =>
    cases t with
    | cons h2 u =>
      cases u
      exact ⟨_, _, _, e1, qT, h1, h2⟩
def NoF (M : Mac) (sl ml el : Log) : Prop := ∀ q ∈ namePairs M, areTw M (img M sl (every M)) (tab M ml) (rest M el) q.1 q.2 = false
theorem mem_namePairs {M : Mac} {q : Str × Str} : q ∈ namePairs M ↔ q.1 ∈ M.nms ∧ q.2 ∈ M.nms := by
  unfold namePairs
  rw [List.mem_flatMap]
  constructor
  · rintro ⟨a, ha, h⟩
    obtain ⟨b, hb, rfl⟩ := List.mem_map.mp h
    exact ⟨ha, hb⟩
  · exact fun h => ⟨q.1, h.1, List.mem_map.mpr ⟨q.2, h.2, rfl⟩⟩
theorem isNon_best (ob : Option Log) : isNon (bestD ob) = ob.isNone := by cases ob <;> rfl
theorem rest_len {M : Mac} (l : Log) : (rest M l).length = M.n := by
  rw [rest_eq]
  have : (firsts (marked M l)).length = (marked M l).length := by
    unfold firsts
    simp
  rw [this, marked_len]
theorem img_lt2 {M : Mac} (hM : M.Ok) {l : Log} (h : LN M l) : (∀ i ∈ img M l (every M), i < M.n) ∧ (img M l (every M)).length ≤ M.n := by
  refine ⟨fun i hi => ?_, ?_⟩
  · obtain ⟨s, hs, e⟩ := (img_mem hM h).mp hi
    rw [← e]
    exact run_lt hM h hs
  · rw [img_filter hM h]
    have := List.length_filter_le (fun i => decide (i ∈ (every M).map fun s => (way M s l).2)) (List.range M.n)
    rwa [List.length_range] at this
section
variable {P : Program} {w : World} {K : PySem.W.Frag} {mg : Str → Option Value} {base : Heap} {C : Addr}
set_option maxHeartbeats 4000000 in
/-- the innermost branch: best := log or the smaller of both -/
theorem tw_best (hmin : mg "min" = none) (Gby : Gf P w K mg base 1 "by_size" (spBy K)) (L : Bl mg) (Mt : Mth P w K mg base C) (Gpr : Gf P w K mg base 3 "pairs_of" (spPrs K C)) (Gar : Gf P w K mg base 3 "are_twins" (spAre K C))
    (z : Fz) (hr : Room 8 (fx P w K mg base sTw "twins" (topS 41) z).A) {B0 H0 B H : Hp} {vm v1 v2 v3 v4 v5 v6 v7 v8 v9 v10 v11 : V} {o12 o13 o14 o15 : Option V} {M : Mac} {sl ml el : Log} {ob : Option Log} (x0 : Nx B0 H0 B H) (h1 : (machM K C M).p vm B) (hM : M.Ok) (hk2 : M.nms.length ≤ 2)
    (l1 : LN M sl ∧ sl.length ≤ 27) (l2 : LN M ml ∧ ml.length ≤ 27) (l3 : LN M el ∧ el.length ≤ 27)
    (h4 : Dp K B v4 (eTS el)) (h6 : Dp K B v6 (bestD ob)) (h7 : Dp K B v7 (eTN (img M sl (every M)))) (h8 : Dp K B v8 (eTS sl)) (h9 : Dp K B v9 (eTN (tab M ml))) (h10 : Dp K B v10 (eTS ml)) (h11 : Dp K B v11 (eLN (rest M el))) (ho : ∀ l, ob = some l → GoodB M l) {D : Ends} {F : Prop} (hF : ob = none → F)
    (k : ∀ v6 (o12 o13 o14 : Option V) ob B' H', Same B B' → Nx B0 H0 B' H' → Dp K B' v6 (bestD ob) → (∀ l, ob = some l → GoodB M l) → (ob = none → F ∧ NoF M sl ml el) → D.nx [some vm, some v1, some v2, some v3, some v4, some v5, some v6, some v7, some v8, some v9, some v10, some v11, o12, o13, o14, o15] H') :
    wB (fx P w K mg base sTw "twins" (topS 41) z) (fbL (fbL (fbL ((defBody (topS 41)).drop 5)))) D [some vm, some v1, some v2, some v3, some v4, some v5, some v6, some v7, some v8, some v9, some v10, some v11, o12, o13, o14, o15] H := by
  have hu : (fx P w K mg base sTw "twins" (topS 41) z).A.units + 65 < cLine := hr.u65
  have noq : ∀ l : Log, (K7.bestD ob) = eTS l → True := fun _ _ => trivial
  refine b_cons (s_if (b := ob.isNone || decide (sl.length + ml.length + el.length + 2 ≤ (ob.getD []).length)) x0.s (et_or (ET.is (et_isN (X := fx P w K mg base sTw "twins" (topS 41) z) (ev_var (P := dt K (bestD ob)) 6 rfl h6)) (isNon_best ob)) fun e => ?_) (fun hb Ba Ha xa => ?_) (fun hb Ba Ha xa => b_nil (b_nil (k v6 o12 o13 o14 ob Ba Ha xa.b (x0.trans xa) (dp_same xa.b h6) ho fun e => ?_))))
  · cases ob with
    | none => cases e
    | some l =>
      refine et_leN (ev_addN (ev_addN (ev_addN (EV.is (ev_lenT L.len (ev_var (P := dt K (eTS sl)) 8 rfl h8)) ?_) (EV.is (ev_lenT L.len (ev_var (P := dt K (eTS ml)) 10 rfl h10)) ?_)) (EV.is (ev_lenT L.len (ev_var (P := dt K (eTS el)) 4 rfl h4)) ?_)) ev_intN) (EV.is (ev_lenT L.len (ev_var (P := dt K (eTS l)) 6 rfl h6)) ?_)
      all_goals exact congrArg (fun n : Nat => eN n) (List.length_map ..)
  · refine b_cons (s_for (its := namePairs M) (S := fun q => dt K (eP q)) PassesOwn.never rfl (sn_enc (sn_list (ev_cal (t := M) Gpr (hr.mono (by decide)) (ea_cons (ev_var 0 rfl ((machM K C M).mono xa.b h1)) ea_nil) hM))) xa.s
      (fun i σ' B' H' => ∃ (v6 : V) (o12 o13 o14 : Option V) (ob : Option Log), σ' = [some vm, some v1, some v2, some v3, some v4, some v5, some v6, some v7, some v8, some v9, some v10, some v11, o12, o13, o14, o15] ∧ Same B B' ∧ Nx B0 H0 B' H' ∧ Dp K B' v6 (bestD ob) ∧ (∀ l, ob = some l → GoodB M l) ∧ (ob = none → F ∧ ∀ q ∈ (namePairs M).take i, areTw M (img M sl (every M)) (tab M ml) (rest M el) q.1 q.2 = false))
      (fun B1 H1 x1 => ⟨v6, o12, o13, o14, ob, rfl, xa.b.trans x1.b, x0.trans (xa.trans x1), dp_same (xa.b.trans x1.b) h6, ho, fun e => ⟨hF e, fun q hq => by cases hq⟩⟩)
      (fun i q σ' B' H' B2 H2 v hq ⟨w6, p12, p13, p14, ob2, e, sB, x', g6, go, gn⟩ x2 hv => ?_) (fun σ' B' H' s1 s2 ⟨w6, p12, p13, p14, ob2, e, sB, x', g6, go, gn⟩ => ?_))
    · subst e
      obtain ⟨a, b⟩ := q
      have hq2 := mem_namePairs.mp (List.mem_of_getElem? hq)
      have ha : a ∈ M.nms := hq2.1
      have hb' : b ∈ M.nms := hq2.2
      have hv : Dp K B2 v (.tuple [eS a, eS b]) := hv
      obtain ⟨T, va, vb, ev, qT, pa, pb⟩ := dp_pair hv
      rw [ev]
      refine ⟨_, tj_two 12 13 rfl scTw.nd (same_t x2.s qT), ?_⟩
      have sB2 := sB.trans x2.b
      have x'2 := x'.trans x2
      have q4 := dp_same sB2 h4
      have q6 := dp_same x2.b g6
      have q7 := dp_same sB2 h7
      have q8 := dp_same sB2 h8
      have q9 := dp_same sB2 h9
      have q10 := dp_same sB2 h10
      have q11 := dp_same sB2 h11
      have qm := (machM K C M).mono sB2 h1
      have hil := img_lt2 hM l1.1
      have hn10 := hM.n4
      refine b_cons (s_if (b := areTw M (img M sl (every M)) (tab M ml) (rest M el) a b) x'2.s (et_val (ev_cal (X := fx P w K mg base sTw "twins" (topS 41) z) (t := (M, (img M sl (every M), tab M ml, rest M el), a, b)) Gar (hr.mono (by decide)) (ea_cons (ev_var 0 rfl qm) (ea_cons (ev_var 7 rfl q7) (ea_cons (ev_var 9 rfl q9) (ea_cons (ev_var 11 rfl q11) (ea_cons (ev_var 12 rfl pa) (ea_cons (ev_var 13 rfl pb) ea_nil)))))) ⟨hM, ⟨hil.1, Nat.le_trans hil.2 (Nat.le_trans hn10 (by decide))⟩, ⟨tab_len ml, tab_lt hM l2.1⟩, rest_len el, hM.in_ks ha, hM.in_ks hb'⟩)) (fun ht Bb Hb xb => ?_) (fun ht Bb Hb xb => b_nil (b_nil ⟨Bb, xb.b, xb.s, w6, _, _, p14, ob2, rfl, sB2.trans xb.b, x'2.trans xb, dp_same xb.b q6, go, fun e => ⟨(gn e).1, take_snoc hq (gn e).2 ht⟩⟩)))
      refine b_cons (s_set (P := dt K (eTS (sl ++ a :: (ml ++ b :: el)))) 14 scTw.nd xb.s (EV.is (ev_tup (ds := sl.map eS ++ eS a :: (ml.map eS ++ eS b :: el.map eS)) (EA.data (ea_starT (ev_var 8 rfl (dp_same xb.b q8)) (ea_cons (ev_var (P := dt K (eS a)) 12 rfl (dp_same xb.b pa)) (ea_starT (ev_var 10 rfl (dp_same xb.b q10)) (ea_cons (ev_var (P := dt K (eS b)) 13 rfl (dp_same xb.b pb)) (ea_starT (ev_var 4 rfl (dp_same xb.b q4)) ea_nil))))) (by simp only [List.map_append, List.map_cons, List.append_nil]; rfl)) (by simp; omega)) ?_) fun lv Bc Hc xc pl => ?_)
      · show PyData.tuple _ = eTS _
        simp
      have hlen : (sl ++ a :: (ml ++ b :: el)).length ≤ 200 := by
        simp
        omega
      have hgood : GoodB M (sl ++ a :: (ml ++ b :: el)) := ⟨l1.1.app (LN.cons ha (l2.1.app (LN.cons hb' l3.1))), hlen, _, _, tw_pair hM l1.1 l2.1 l3.1 ha hb' ht hlen⟩
      have q6c := dp_same (xb.b.trans xc.b) q6
      refine b_cons (s_set (P := oneM K (ob2.getD (sl ++ a :: (ml ++ b :: el))) (sl ++ a :: (ml ++ b :: el))) 6 scTw.nd xc.s (ev_ite (k := ob2.isNone) (ET.is (et_isN (X := fx P w K mg base sTw "twins" (topS 41) z) (ev_var (P := dt K (bestD ob2)) 6 rfl q6c)) (isNon_best ob2)) (fun e => ?_) (fun e => ?_)) fun bv Bd Hd xd pd => ?_)
      · exact EV.imp (ev_var (P := dt K (eTS (sl ++ a :: (ml ++ b :: el)))) 14 rfl pl) fun v B3 s3 p3 => .inr p3
      · cases ob2 with
        | none => cases e
        | some l =>
          exact ev_minBy rfl Gby (hr.mono (by decide)) hmin (ev_var 6 rfl q6c) (ev_var 14 rfl pl)
      obtain ⟨l', hl', gl'⟩ : ∃ l', GoodB M l' ∧ Dp K Bd bv (eTS l') := by
        rcases pd with h | h
        · cases e : ob2 with
          | none =>
            rw [e] at h
            exact ⟨_, hgood, h⟩
          | some l =>
            rw [e] at h
            exact ⟨l, go l e, h⟩
        · exact ⟨_, hgood, h⟩
      refine b_nil (b_nil ⟨Bd, xb.b.trans (xc.b.trans xd.b), xd.s, bv, _, _, _, some l', rfl, sB2.trans (xb.b.trans (xc.b.trans xd.b)), x'2.trans (xb.trans (xc.trans xd)), gl', fun l e => ?_, fun e => by cases e⟩)
      injection e with e
      rw [← e]
      exact hl'
    · subst e
      exact b_nil (b_nil (k w6 p12 p13 p14 ob2 B' H' sB x' g6 go fun e => ⟨(gn e).1, fun q hq => (gn e).2 q (by rw [List.take_length]; exact hq)⟩))
  · rw [e] at hb
    cases hb
end
end K7
/-! The loops of twins. -/
namespace K7
set_option pp.maxSteps 300
open PySem PySem.Spec PyProof.Rows L2 LamX
section
variable {P : Program} {w : World} {K : PySem.W.Frag} {mg : Str → Option Value} {base : Heap} {C : Addr}
set_option maxHeartbeats 4000000 in
/-- the loops -/
theorem tw_loops (hmin : mg "min" = none) (Gby : Gf P w K mg base 1 "by_size" (spBy K)) (L : Bl mg) (Mt : Mth P w K mg base C) (Gpr : Gf P w K mg base 3 "pairs_of" (spPrs K C)) (Gar : Gf P w K mg base 3 "are_twins" (spAre K C)) (Gtp : Gf P w K mg base 7 "twin_pairs" (spTwP K C))
    (z : Fz) (hr : Room 8 (fx P w K mg base sTw "twins" (topS 41) z).A) {B H : Hp} {vm v1 v2 v3 v5 v6 : V} {o4 o7 o8 o9 o10 o11 o12 o13 o14 o15 : Option V} {M : Mac} {ls1 ls2 ls3 : List Log} (sb : Same B H) (h1 : (machM K C M).p vm B) (hM : M.Ok) (hk2 : M.nms.length ≤ 2)
    (D1 : FlDone M (mk1 M) false 27 ls1) (D2 : FlDone M (mk2 M) false 27 ls2) (D3 : FlDone M (mk3 M) true 27 ls3) (p1 : (dicM K P w (ls1.map fun l => (mk1 M l, l.map eS))).p v1 B) (p2 : (dicM K P w (ls2.map fun l => (mk2 M l, l.map eS))).p v2 B)
    (p5 : Dp K B v5 (.list (ls3.map fun l => .tuple [eLN (rest M l), eTS l]))) (p6 : Dp K B v6 .none) {D : Ends}
    (hD : ∀ v B1 H1, Nx B H B1 H1 → (twM K M).p v B1 → D.rt v H1) :
    wB (fx P w K mg base sTw "twins" (topS 41) z) ((defBody (topS 41)).drop 5) D [some vm, some v1, some v2, some v3, o4, some v5, some v6, o7, o8, o9, o10, o11, o12, o13, o14, o15] H := by
  refine b_cons (s_for (X := fx P w K mg base sTw "twins" (topS 41) z) (its := ls1) (S := fun l => prM (dt K (mk1 M l).data) (dt K (eTS l))) PassesOwn.never rfl (sn_mapI (fun l => (mk1 M l, l.map eS)) (sn_items (ev_var 1 rfl p1))) sb
    (fun i σ' B' H' => ∃ (v6 : V) (o4 o7 o8 o9 o10 o11 o12 o13 o14 : Option V) (ob : Option Log), σ' = [some vm, some v1, some v2, some v3, o4, some v5, some v6, o7, o8, o9, o10, o11, o12, o13, o14, o15] ∧ Nx B H B' H' ∧ Dp K B' v6 (bestD ob) ∧ (∀ l, ob = some l → GoodB M l) ∧ (ob = none → ∀ sl ∈ ls1.take i, ∀ ml ∈ ls2, ∀ el ∈ ls3, NoF M sl ml el))
    (fun B1 H1 x1 => ⟨v6, o4, o7, o8, o9, o10, o11, o12, o13, o14, none, rfl, x1, dp_same x1.b p6, fun l e => (by cases e), fun _ sl h => (by cases h)⟩)
    (fun i sl σ' B' H' B2 H2 v hq ⟨w6, q4, q7, q8, q9, q10, q11, q12, q13, q14, ob, e, x', g6, go, gn⟩ x2 hv => ?_) (fun σ' B' H' s1 s2 ⟨w6, q4, q7, q8, q9, q10, q11, q12, q13, q14, ob, e, x', g6, go, gn⟩ => ?_))
  · subst e
    obtain ⟨T, w7, w8, ev, hT, h7, h8⟩ := hv
    rw [ev]
    have l1 := D1.ln sl (List.mem_of_getElem? hq)
    have xx := x'.trans x2
    refine ⟨_, tj_pair 7 8 rfl scTw.nd (x2.s _ _ hT), ?_⟩
    refine b_cons (s_for (X := fx P w K mg base sTw "twins" (topS 41) z) (its := ls2) (S := fun l => prM (dt K (mk2 M l).data) (dt K (eTS l))) PassesOwn.never rfl (sn_mapI (fun l => (mk2 M l, l.map eS)) (sn_items (ev_var 2 rfl ((dicM _ _ _ _).mono xx.b p2)))) x2.s
      (fun j σ' B' H' => ∃ (v6 : V) (o4 o9 o10 o11 o12 o13 o14 : Option V) (ob : Option Log), σ' = [some vm, some v1, some v2, some v3, o4, some v5, some v6, some w7, some w8, o9, o10, o11, o12, o13, o14, o15] ∧ Same B2 B' ∧ Nx B H B' H' ∧ Dp K B' v6 (bestD ob) ∧ (∀ l, ob = some l → GoodB M l) ∧ (ob = none → (∀ sl ∈ ls1.take i, ∀ ml ∈ ls2, ∀ el ∈ ls3, NoF M sl ml el) ∧ ∀ ml ∈ ls2.take j, ∀ el ∈ ls3, NoF M sl ml el))
      (fun B1 H1 x1 => ⟨w6, q4, q9, q10, q11, q12, q13, q14, ob, rfl, x1.b, xx.trans x1, dp_same (x2.b.trans x1.b) g6, go, fun e => ⟨gn e, fun ml h => by cases h⟩⟩)
      (fun j ml σ' B3 H3 B4 H4 v hq2 ⟨w6, q4, q9, q10, q11, q12, q13, q14, ob, e, sB, x', g6, go, gn⟩ x4 hv => ?_) (fun σ' B' H' s1 s2 ⟨w6, q4, q9, q10, q11, q12, q13, q14, ob, e, sB, x', g6, go, gn⟩ => ?_))
    · subst e
      obtain ⟨T2, w9, w10, ev2, hT2, h9, h10⟩ := hv
      rw [ev2]
      have l2 := D2.ln ml (List.mem_of_getElem? hq2)
      have xy := x'.trans x4
      refine ⟨_, tj_pair 9 10 rfl scTw.nd (x4.s _ _ hT2), ?_⟩
      refine b_cons (s_for (X := fx P w K mg base sTw "twins" (topS 41) z) (its := ls3) (S := fun l => dt K (.tuple [eLN (rest M l), eTS l])) PassesOwn.never rfl (sn_enc (sn_list (ev_var 5 rfl (dp_same xy.b p5)))) x4.s
        (fun k σ' B' H' => ∃ (v6 : V) (o4 o11 o12 o13 o14 : Option V) (ob : Option Log), σ' = [some vm, some v1, some v2, some v3, o4, some v5, some v6, some w7, some w8, some w9, some w10, o11, o12, o13, o14, o15] ∧ Same B4 B' ∧ Nx B H B' H' ∧ Dp K B' v6 (bestD ob) ∧ (∀ l, ob = some l → GoodB M l) ∧ (ob = none → ((∀ sl ∈ ls1.take i, ∀ ml ∈ ls2, ∀ el ∈ ls3, NoF M sl ml el) ∧ ∀ ml ∈ ls2.take j, ∀ el ∈ ls3, NoF M sl ml el) ∧ ∀ el ∈ ls3.take k, NoF M sl ml el))
        (fun B1 H1 x1 => ⟨w6, q4, q11, q12, q13, q14, ob, rfl, x1.b, xy.trans x1, dp_same (x4.b.trans x1.b) g6, go, fun e => ⟨gn e, fun ml h => by cases h⟩⟩)
        (fun k el σ' B5 H5 B6 H6 v hq3 ⟨w6, q4, q11, q12, q13, q14, ob, e, sB2, x', g6, go, gn⟩ x6 hv => ?_) (fun σ' B' H' s1 s2 ⟨w6, q4, q11, q12, q13, q14, ob, e, sB2, x', g6, go, gn⟩ => ?_))
      · subst e
        have hv : Dp K B6 v (.tuple [eLN (rest M el), eTS el]) := hv
        obtain ⟨T3, w11, w4, ev3, hT3, h11, h4⟩ := dp_pair hv
        rw [ev3]
        have l3 := D3.ln el (List.mem_of_getElem? hq3)
        have s46 := sB2.trans x6.b
        have s26 := sB.trans (x4.b.trans s46)
        have x06 := x'.trans x6
        refine ⟨_, tj_two 11 4 rfl scTw.nd (same_t x6.s hT3), ?_⟩
        have h7 : Dp K B2 w7 (eTN (img M sl (every M))) := by rw [← data_kTN]; exact h7
        have h9 : Dp K B4 w9 (eTN (tab M ml)) := by rw [← data_kTN]; exact h9
        refine tw_best hmin Gby L Mt Gpr Gar z hr x06 ((machM K C M).mono x06.b h1) hM hk2 l1 l2 l3 h4 (dp_same x6.b g6) (dp_same s26 h7) (dp_same s26 h8) (dp_same s46 h9) (dp_same s46 h10) h11 go gn fun w6 q12 q13 q14 ob B' H' s8 x8 g6 go gn => ⟨B', s8, x8.s, w6, _, _, q12, q13, q14, ob, rfl, s46.trans s8, x8, g6, go, fun e => ⟨(gn e).1.1, take_snoc hq3 (gn e).1.2 (gn e).2⟩⟩
      · subst e
        exact b_nil ⟨B', s1, x'.s, w6, _, _, _, _, _, _, _, ob, rfl, sB.trans (x4.b.trans sB2), x', g6, go, fun e => ⟨(gn e).1.1, take_snoc hq2 (gn e).1.2 fun el h => (gn e).2 el (by rw [List.take_length]; exact h)⟩⟩
    · subst e
      exact b_nil ⟨B', s1, x'.s, w6, _, _, _, _, _, _, _, _, _, ob, rfl, x', g6, go, fun e => take_snoc hq (gn e).1 fun ml h => (gn e).2 ml (by rw [List.take_length]; exact h)⟩
  · subst e
    rw [List.take_length] at gn
    have s2' := x'.s
    have qm := (machM K C M).mono x'.b h1
    refine b_cons (s_ret (P := twM K M) s2' (ev_ite (k := ob.isNone) (ET.is (et_isN (X := fx P w K mg base sTw "twins" (topS 41) z) (ev_var (P := dt K (bestD ob)) 6 rfl g6)) (isNon_best ob)) (fun e => ?_) (fun e => ?_)) fun v B1 H1 x1 pv => hD v B1 H1 (x'.trans x1) pv)
    · cases ob with
      | some l => cases e
      | none => exact EV.imp ev_non fun v B3 s3 p3 => .inl ⟨p3, no_tw hM D1 D2 D3 fun sl h1 ml h2 el h3 a ha b hb => gn rfl sl h1 ml h2 el h3 (a, b) (mem_namePairs.mpr ⟨ha, hb⟩)⟩
    · cases ob with
      | none => cases e
      | some l =>
        obtain ⟨hln, hl2, p, q, hpq⟩ := go l rfl
        obtain ⟨r, rs, er⟩ : ∃ r rs, twinPairs M l = r :: rs := by
          cases e : twinPairs M l with
          | nil =>
            rw [e] at hpq
            cases hpq
          | cons r rs => exact ⟨r, rs, rfl⟩
        have hr1 : r ∈ twinPairs M l := by
          rw [er]
          exact List.mem_cons_self ..
        obtain ⟨i, j, rfl, -⟩ := pairsN_mem.mp (List.mem_filter.mp hr1).1
        refine EV.imp (ev_tup (ds := eTS l :: [eN i, eN j]) (EA.data (ea_cons (ev_var (P := dt K (eTS l)) 6 rfl g6) (ea_starT (ds := [eN i, eN j]) (ev_ixL (i := 0) (ds := (twinPairs M l).map eTN) (ev_cal (X := fx P w K mg base sTw "twins" (topS 41) z) (t := (M, l)) Gtp (hr.mono (by decide)) (ea_cons (ev_var 0 rfl qm) (ea_cons (ev_var (P := dt K (eTS l)) 6 rfl g6) ea_nil)) ⟨hM, hln.ok hM hl2⟩) ev_int (by rw [er]; rfl)) ea_nil)) rfl) (show 3 ≤ 100000 by decide)) fun v B3 s3 p3 => .inr ⟨l, i, j, hr1, hln, hl2, p3⟩
end
end K7
/-! twins. -/
namespace K7
set_option pp.maxSteps 300
open PySem PySem.Spec PyProof.Rows L2 LamX
section
variable {P : Program} {w : World} {K : PySem.W.Frag} {mg : Str → Option Value} {base : Heap} {C : Addr}
set_option maxHeartbeats 4000000 in
theorem tw_tail (hmin : mg "min" = none) (Gby : Gf P w K mg base 1 "by_size" (spBy K)) (Gto : Gf P w K mg base 1 "tops_of" (spTops K)) (L : Bl mg) (Mt : Mth P w K mg base C) (Gpr : Gf P w K mg base 3 "pairs_of" (spPrs K C)) (Gar : Gf P w K mg base 3 "are_twins" (spAre K C)) (Gtp : Gf P w K mg base 7 "twin_pairs" (spTwP K C))
    (z : Fz) (hr : Room 8 (fx P w K mg base sTw "twins" (topS 41) z).A) {B H : Hp} {vm v1 v2 v3 : V} {M : Mac} {ls1 ls2 ls3 : List Log} (sb : Same B H) (h1 : (machM K C M).p vm B) (hM : M.Ok) (hk2 : M.nms.length ≤ 2)
    (D1 : FlDone M (mk1 M) false 27 ls1) (D2 : FlDone M (mk2 M) false 27 ls2) (D3 : FlDone M (mk3 M) true 27 ls3) (p1 : (dicM K P w (ls1.map fun l => (mk1 M l, l.map eS))).p v1 B) (p2 : (dicM K P w (ls2.map fun l => (mk2 M l, l.map eS))).p v2 B) (p3 : (dicM K P w (ls3.map fun l => (mk3 M l, l.map eS))).p v3 B) {D : Ends}
    (hD : ∀ v B1 H1, Nx B H B1 H1 → (twM K M).p v B1 → D.rt v H1) :
    wB (fx P w K mg base sTw "twins" (topS 41) z) ((defBody (topS 41)).drop 3) D [some vm, some v1, some v2, some v3, none, none, none, none, none, none, none, none, none, none, none, none] H := by
  refine b_cons (s_lcM (X := fx P w K mg base sTw "twins" (topS 41) z) (own := [("blocks", 15), ("after", 4)]) (i := 5) (its := ls3) (g := fun l => .tuple [eLN (rest M l), eTS l]) rfl scTw.nd rfl rfl rfl (blkOk_by (N := sTw) (sc := defScope (topS 41)) (by decide +kernel)) (sn_mapI (fun l => (mk3 M l, l.map eS)) (sn_items (ev_var 3 rfl p3))) (by have := D3.len; omega)
    (fun l hl B' s v hv => ?_) sb fun v5 B1 H1 x1 p5 => ?_)
  · obtain ⟨T, wa, wb, ev, hT, ha, hb⟩ := hv
    rw [ev]
    have ha : Dp K B' wa (eB (blocksL (firsts (marked M l)))) := by rw [← data_kB]; exact ha
    refine ⟨[some vm, some v1, some v2, some v3, some wb, none, none, none, none, none, none, none, none, none, none, some wa], rfl, fun zz H' s' => tj_pair 15 4 rfl scTw.nd (s' _ _ hT), fun zz => ev_tup (ds := [eLN (rest M l), eTS l]) (ea_cons (ev_cal (X := bx (fx P w K mg base sTw "twins" (topS 41) z) _ zz) (t := (blocksL (firsts (marked M l)), M.n)) Gto (hr.mono (by decide)) (ea_cons (ev_var 15 rfl ha) (ea_cons (ev_many (X := bx (fx P w K mg base sTw "twins" (topS 41) z) _ zz) Mt (hr.mono (by decide)) (ev_var 0 rfl ((machM K C M).mono s h1))) ea_nil)) ⟨Nat.le_trans hM.n4 (by decide), ?_⟩) (ea_cons (ev_var (P := dt K (eTS l)) 4 rfl hb) ea_nil)) (show 2 ≤ 100000 by decide)⟩
    show (blocksL (firsts (marked M l))).length ≤ 100
    unfold blocksL
    rw [List.length_map, topsL_eq]
    refine Nat.le_trans (List.length_filter_le _ _) ?_
    rw [List.length_range, ← rest_eq, rest_len]
    exact Nat.le_trans hM.n4 (by decide)
  · refine b_cons (s_set (P := dt K .none) 6 scTw.nd x1.s ev_non fun v6 B2 H2 x2 p6 => ?_)
    have xx := x1.trans x2
    exact tw_loops hmin Gby L Mt Gpr Gar Gtp z hr xx.s ((machM K C M).mono xx.b h1) hM hk2 D1 D2 D3 ((dicM _ _ _ _).mono xx.b p1) ((dicM _ _ _ _).mono xx.b p2) (dp_same x2.b p5) p6 fun v B3 H3 x3 => hD v B3 H3 (xx.trans x3)
set_option maxHeartbeats 4000000 in
theorem ok_tw (hmin : mg "min" = none) (L : Bl mg) (Mt : Mth P w K mg base C) {T : List (Addr × Str)} {c Pt : Addr} (D : GdT K mg "twins" (topS 41) c) (Dfl : Gd K mg "first_logs" (topS 38) []) (Gim : Gf P w K mg base 4 "image" (spImg2 K C)) (Ggo : ∃ g, StX.CallO K C g ∧ Fo P w K mg base 4 g (spGo K C)) (Gbe : Gf P w K mg base 5 "behind" (spBeh K C)) (Gby : Gf P w K mg base 1 "by_size" (spBy K)) (Gto : Gf P w K mg base 1 "tops_of" (spTops K)) (Gpr : Gf P w K mg base 3 "pairs_of" (spPrs K C)) (Gar : Gf P w K mg base 3 "are_twins" (spAre K C)) (Gtp : Gf P w K mg base 7 "twin_pairs" (spTwP K C))
    (TB : TabB base mg c Pt) (hmT : (Pt, (("twins" : Str) ++ ".<locals>.") ++ "<lambda>") ∈ T) (huT : ∀ q ∈ T, q.1 = Pt → q.2 = (("twins" : Str) ++ ".<locals>.") ++ "<lambda>") : Gf P w K mg base 9 "twins" (spTw K C T) := by
  refine D.any scTw (fun vs H Q E h => ?_) (fun _ _ _ _ _ _ us hl => match us, hl with | [_], _ => rfl) fun z vs Q hz hr h => ?_
  · obtain ⟨M, B, vm, rfl, -⟩ := h
    rfl
  · obtain ⟨M, B, vm, rfl, sb, nt, tb, h1, hM, hk2, h3, hQ⟩ := h
    refine tw_start L Mt Dfl Gim TB hmT huT z hz hr rfl sb nt tb h1 hM hk2 h3 (rest := []) fun v1 B1 H1 x1 ⟨ls1, D1, p1⟩ => ?_
    refine tw_maps L Mt Dfl Ggo TB hmT huT z hz hr rfl x1.s x1.nt x1.tb ((machM K C M).mono x1.b h1) hM hk2 h3 (rest := []) fun v2 B2 H2 x2 ⟨ls2, D2, p2⟩ => ?_
    have x12 := x1.trans x2
    refine tw_ends L Mt Dfl Gbe TB hmT huT z hz hr rfl x12.s x12.nt x12.tb ((machM K C M).mono x12.b h1) hM hk2 h3 (rest := []) fun v3 B3 H3 x3 ⟨ls3, D3, p3⟩ => ?_
    have x13 := x12.trans x3
    exact tw_tail hmin Gby Gto L Mt Gpr Gar Gtp z hr x13.s ((machM K C M).mono x13.b h1) hM hk2 D1 D2 D3 ((dicM _ _ _ _).mono (x2.b.trans x3.b) p1) ((dicM _ _ _ _).mono x3.b p2) p3 fun v B4 H4 x4 pv => hQ v B4 H4 (x13.nx x4) pv
end
end K7
/-! Looking at a hidden instance for the time of one expression. -/
namespace K7
set_option pp.maxSteps 300
open PySem PySem.Spec PyProof.Rows L2
def offH (B : Hp) (x : Addr) : Hp := fun a => if a = x then none else B a
theorem offH_at {B : Hp} {x : Addr} : offH B x x = none := if_pos rfl
theorem offH_ne {B : Hp} {x a : Addr} (h : a ≠ x) : offH B x a = B a := if_neg h
theorem offH_same {B H : Hp} {x : Addr} (s : Same B H) : Same (offH B x) H := fun a o e => by
  by_cases h : a = x
  · rw [h, offH_at] at e
    cases e
  · rw [offH_ne h] at e
    exact s a o e
theorem rd_off {B : Hp} {x a C dx : Addr} {fs : List (Str × V)} {o : HO} (hx : B x = some (.ins C dx fs)) (h : Rd B a o) (hl : (∃ xs, o = .lst xs) ∨ ∃ xs, o = .tup xs) : Rd (offH B x) a o := by
  by_cases e : a = x
  · subst e
    rcases h with h | ⟨ob, h⟩
    · rw [hx] at h
      rcases hl with ⟨xs, rfl⟩ | ⟨xs, rfl⟩ <;> cases h
    · rw [hx] at h
      cases h
  · rcases h with h | ⟨ob, h⟩
    · exact .inl (by rw [offH_ne e]; exact h)
    · exact .inr ⟨ob, by rw [offH_ne e]; exact h⟩
mutual
theorem dp_off {K : PySem.W.Frag} {B : Hp} {x C dx : Addr} {fs : List (Str × V)} (hx : B x = some (.ins C dx fs)) : ∀ {v : V} {d : PyData}, Dp K B v d → Dp K (offH B x) v d
  | _, _, .non => .non
  | _, _, .bl b => .bl b
  | _, _, .int i => .int i
  | _, _, .str y => .str y
  | _, _, .lst s h => .lst (s.imp (fun r => rd_off hx r (.inl ⟨_, rfl⟩)) id) (dpa_off hx h)
  | _, _, .tup s h => .tup (s.imp (fun r => rd_off hx r (.inr ⟨_, rfl⟩)) id) (dpa_off hx h)
theorem dpa_off {K : PySem.W.Frag} {B : Hp} {x C dx : Addr} {fs : List (Str × V)} (hx : B x = some (.ins C dx fs)) : ∀ {vs : List V} {ds : List PyData}, DpAll K B vs ds → DpAll K (offH B x) vs ds
  | _, _, .nil => .nil
  | _, _, .cons h t => .cons (dp_off hx h) (dpa_off hx t)
end
/-- an expression that looks at the instance -/
theorem peek {X : Cx} {e : Expr} {σ : L2.St} {B H : Hp} {x C dx : Addr} {fs : List (Str × V)} {P : Mp} {Q : VK} (sb : Same B H) (hx : H x = some (.ins C dx fs)) (bx : B x = none) (he : EV X e σ (upd B x (.ins C dx fs)) P)
    (k : ∀ v B1 B2 H2, Nx B H B1 H2 → B1 x = none → H2 x = some (.ins C dx fs) → B2 x = some (.ins C dx fs) → B1 = offH B2 x → P.p v B2 → Q v H2) : wE X e σ H Q := by
  have hB : ∀ a o, upd B x (.ins C dx fs) a = some o → H a = some o := fun a o h => by
    by_cases e : a = x
    · subst e
      rw [upd_same] at h
      rw [hx]
      exact h
    · rw [upd_ne e] at h
      exact sb a o h
  refine he H hB Q fun v B2 H2 x2 p => ?_
  have hx2 : B2 x = some (.ins C dx fs) := x2.b x _ upd_same
  refine k v (offH B2 x) B2 H2 ⟨x2.h, fun a o h => ?_, offH_same x2.s, fun a h => ?_, fun a ps h => ?_⟩ offH_at (x2.h _ _ hx) hx2 rfl p
  · by_cases e : a = x
    · subst e
      rw [bx] at h
      cases h
    · rw [offH_ne e]
      exact x2.b a o (by rw [upd_ne e]; exact h)
  · by_cases e : a = x
    · subst e
      rw [offH_at, bx]
    · rw [offH_ne e, x2.o a h, upd_ne e]
  · by_cases e : a = x
    · subst e
      rw [offH_at]
      exact fun z => by cases z
    · rw [offH_ne e]
      exact x2.n a ps h
end K7
/-! sorted of texts: one outcome. -/
namespace K7
set_option pp.maxSteps 300
open PySem PySem.Spec PyProof.Rows L2
def leT (a b : Str) : Bool := !ltCps b.cps.toList a.cps.toList
theorem leT_iff {a b : Str} : leT a b = true ↔ a.cps.toList ≤ b.cps.toList := by
  unfold leT
  rw [ltCps_eq, Bool.not_eq_true', decide_eq_false_iff_not]
  exact Iff.rfl
theorem leT_anti {a b : Str} (h : leT a b = true) (g : leT b a = true) : a = b := by
  have e := List.le_antisymm (leT_iff.mp h) (leT_iff.mp g)
  obtain ⟨x⟩ := a
  obtain ⟨y⟩ := b
  exact congrArg Str.mk (Array.toList_inj.mp e)
theorem leT_trans {a b c : Str} (h : leT a b = true) (g : leT b c = true) : leT a c = true := leT_iff.mpr (List.le_trans (leT_iff.mp h) (leT_iff.mp g))
theorem leT_total (a b : Str) : (leT a b || leT b a) = true := by
  rw [Bool.or_eq_true, leT_iff, leT_iff]
  exact List.le_total ..
def srt (l : List Str) : List Str := l.mergeSort leT
theorem srt_perm (l : List Str) : (srt l).Perm l := List.mergeSort_perm l leT
theorem srt_pw (l : List Str) : (srt l).Pairwise (fun a b => leT a b = true) := List.pairwise_mergeSort (le := leT) (fun _ _ _ h g => leT_trans h g) leT_total l
theorem risingS_pw : ∀ (l : List Str) (p : Str), risingS p l = true → (p :: l).Pairwise (fun a b => leT a b = true)
  | [], p, _ => List.pairwise_singleton ..
  | x :: r, p, h => by
    have h : (leT p x && risingS x r) = true := h
    rw [Bool.and_eq_true] at h
    have ih := risingS_pw r x h.2
    refine List.pairwise_cons.mpr ⟨fun y hy => ?_, ih⟩
    rcases List.mem_cons.mp hy with rfl | hy
    · exact h.1
    · exact leT_trans h.1 (List.rel_of_pairwise_cons ih hy)
theorem sortedS_pw : ∀ {l : List Str}, sortedS l = true → l.Pairwise (fun a b => leT a b = true)
  | [], _ => .nil
  | x :: r, h => risingS_pw r x h
theorem srt_uniq {ys l : List Str} (h : ys.Perm l) (s : sortedS ys = true) : ys = srt l := (h.trans (srt_perm l).symm).eq_of_pairwise (fun _ _ _ _ => leT_anti) (sortedS_pw s) (srt_pw l)
end K7
/-! sorted of texts, dict of pairs. -/
namespace K7
set_option pp.maxSteps 300
open PySem PySem.Spec PyProof.Rows L2
theorem dpa_strs {K : PySem.W.Frag} {H : Hp} : ∀ {xs : List V} {l : List Str}, DpAll K H xs (l.map eS) → xs = l.map V.str
  | _, [], h => by
    cases h
    rfl
  | _, y :: l, h => by
    cases h with
    | cons h1 t =>
      cases h1
      rw [dpa_strs t]
      rfl
theorem strs_dpa {K : PySem.W.Frag} {H : Hp} : ∀ l : List Str, DpAll K H (l.map V.str) (l.map eS)
  | [] => .nil
  | y :: l => .cons (.str y) (strs_dpa l)
/-- a dict of names, in its order -/
def dkAt (K : PySem.W.Frag) (rows : List (Str × PyData)) (kvs : List (Key × V)) (B : Hp) : Prop := Paired (fun (r : Str × PyData) (kv : Key × V) => kv.1 = .inr r.1 ∧ Dp K B kv.2 r.2) rows kvs
def dkM (K : PySem.W.Frag) (rows : List (Str × PyData)) : Mp := ⟨fun v B => ∃ d kvs, v = .ref d ∧ B d = some (.dK kvs) ∧ dkAt K rows kvs B, fun s ⟨d, kvs, e, h, g⟩ => ⟨d, kvs, e, s _ _ h, paired_imp (fun _ _ ⟨a, b⟩ => ⟨a, dp_same s b⟩) g⟩⟩
theorem putK_new {kvs : List (Key × V)} {k : Key} {v : V} (h : k ∉ kvs.map (·.1)) : putK kvs k v = kvs ++ [(k, v)] := by
  unfold putK
  rw [if_neg]
  rw [List.any_eq_true]
  rintro ⟨x, hx, e⟩
  exact h (List.mem_map.mpr ⟨x, hx, of_decide_eq_true e⟩)
theorem mergeK_nodup : ∀ (more kvs : List (Key × V)), ((kvs ++ more).map (·.1)).Nodup → mergeK kvs more = kvs ++ more
  | [], kvs, _ => (List.append_nil _).symm
  | p :: r, kvs, h => by
    have e : kvs ++ p :: r = (kvs ++ [p]) ++ r := by simp
    rw [e] at h ⊢
    show mergeK (putK kvs p.1 p.2) r = _
    rw [putK_new, mergeK_nodup r (kvs ++ [(p.1, p.2)]) h]
    rw [List.map_append, List.map_append] at h
    have h1 := (List.nodup_append.mp h).1
    intro hm
    exact (List.nodup_append.mp h1).2.2 _ hm _ (by simp) rfl
theorem dk_keys {K : PySem.W.Frag} {B : Hp} : ∀ {rows : List (Str × PyData)} {kvs : List (Key × V)}, dkAt K rows kvs B → kvs.map (·.1) = rows.map fun r => (Sum.inr r.1 : Key)
  | _, _, .nil => rfl
  | _, _, .cons h t => by
    rw [List.map_cons, List.map_cons, h.1, dk_keys t]
theorem inr_nodup : ∀ {l : List Str}, l.Nodup → (l.map fun x => (Sum.inr x : Key)).Nodup
  | [], _ => .nil
  | a :: l, h => by
    obtain ⟨h1, h2⟩ := List.nodup_cons.mp h
    refine List.nodup_cons.mpr ⟨fun z => ?_, inr_nodup h2⟩
    obtain ⟨b, hb, e⟩ := List.mem_map.mp z
    injection e with e
    exact h1 (e ▸ hb)
theorem dp_pairs {K : PySem.W.Frag} {H : Hp} : ∀ {rows : List (Str × PyData)} {xs : List V}, DpAll K H xs (rows.map fun r => .tuple [eS r.1, r.2]) → ∃ (ps : List Addr) (kvs : List (Key × V)), xs = ps.map V.ref ∧ Paired (fun p (kv : Key × V) => SqT K H p [kV kv.1, kv.2]) ps kvs ∧ dkAt K rows kvs H
  | [], _, h => by
    cases h
    exact ⟨[], [], rfl, .nil, .nil⟩
  | r :: rows, _, h => by
    cases h with
    | cons h1 t =>
      obtain ⟨T, a, b, rfl, q, pa, pb⟩ := dp_pair h1
      cases pa
      obtain ⟨ps, kvs, rfl, g1, g2⟩ := dp_pairs t
      exact ⟨T :: ps, (.inr r.1, b) :: kvs, rfl, .cons q g1, .cons ⟨rfl, pb⟩ g2⟩
section
variable {X : Cx} {e : Expr} {σ : L2.St} {B H : Hp} {p pos : Pos}
theorem ev_sortT {l : List Str} (hm : X.mg "sorted" = none) (h : EV X e σ B (dt X.K (.list (l.map eS)))) (hz : l.length < 64) (hg : Gl X "sorted" := by rfl) (he : starEach [e] X.env = (false, eval e X.env) :: starEach [] X.env := by rfl) :
    EV X (.Call (.Name "sorted" p) [e] [] pos) σ B (dt X.K (.list ((srt l).map eS))) :=
  ev_blt cr_sortedS hm (by decide +kernel) (ea_cons h ea_nil he) (fun vs B1 _ g0 => by
    obtain ⟨v, rfl, g⟩ := allM1 g0
    obtain ⟨a, xs, rfl, hl, hd⟩ := dp_l g
    intro H s Q q
    refine ⟨a, l, rfl, by rw [← dpa_strs hd]; exact same_l s hl, hz, fun ys r pm hs hr => ?_⟩
    rw [srt_uniq pm hs]
    exact q _ _ _ ((Nx.refl s).put (o := .lst ((srt l).map V.str)) hr) (.lst (.inl (.inl upd_same)) (strs_dpa _))) hg (by decide) (by decide) he rfl
theorem paired_same {K : PySem.W.Frag} {H H' : Hp} (s : Same H H') {ps : List Addr} {kvs : List (Key × V)} (h : Paired (fun p (kv : Key × V) => SqT K H p [kV kv.1, kv.2]) ps kvs) : Paired (fun p (kv : Key × V) => SqT K H' p [kV kv.1, kv.2]) ps kvs := paired_imp (fun _ _ q => same_t s q) h
theorem ev_dictP {rows : List (Str × PyData)} (hc : X.calm = true) (hm : X.mg "dict" = none) (h : EV X e σ B (dt X.K (.list (rows.map fun r => .tuple [eS r.1, r.2])))) (nd : (rows.map (·.1)).Nodup) (hg : Gl X "dict" := by rfl) (he : starEach [e] X.env = (false, eval e X.env) :: starEach [] X.env := by rfl) :
    EV X (.Call (.Name "dict" p) [e] [] pos) σ B (dkM X.K rows) :=
  ev_bty (call_dictP hc) hm (by decide +kernel) (ea_cons h ea_nil he) (fun vs B1 _ g0 => by
    obtain ⟨v, rfl, g⟩ := allM1 g0
    obtain ⟨a, xs, rfl, hl, hd⟩ := dp_l g
    obtain ⟨ps, kvs, rfl, g1, g2⟩ := dp_pairs hd
    intro H s Q q
    refine ⟨a, ps, kvs, rfl, same_l s hl, paired_same s g1, fun d hr => ?_⟩
    have ek : mergeK [] kvs = kvs := mergeK_nodup kvs [] (by
      rw [List.nil_append, dk_keys g2]
      have := inr_nodup nd
      rwa [List.map_map] at this)
    rw [ek]
    have x1 := (Nx.refl s).put (o := .dK kvs) hr
    exact q _ _ _ x1 ⟨d, kvs, rfl, upd_same, paired_imp (fun _ _ ⟨a, b⟩ => ⟨a, dp_same x1.b b⟩) g2⟩) hg (by decide) (by decide) he rfl
end
end K7
/-! A machine made. -/
namespace K7
set_option pp.maxSteps 300
open PySem PySem.Spec PyProof.Rows L2
def mkMac (n : Nat) (rows : List (Str × List Nat)) (sh : List Int) : Mac := ⟨n, rows.map (·.1), srt (rows.map (·.1)), fun x => (rows.lookup x).getD [], sh⟩
theorem lookup_mem {rows : List (Str × List Nat)} {x : Str} (h : x ∈ rows.map (·.1)) : (x, (rows.lookup x).getD []) ∈ rows := by
  induction rows with
  | nil => cases h
  | cons r rows ih =>
    obtain ⟨y, l⟩ := r
    by_cases e : x = y
    · subst e
      simp
    · have hb : (x == y) = false := by simpa using e
      rw [List.lookup_cons, hb]
      rcases List.mem_cons.mp h with h | h
      · exact absurd h e
      · exact List.mem_cons_of_mem _ (ih h)
theorem dk_val {K : PySem.W.Frag} {B : Hp} {x : Str} : ∀ {rows : List (Str × List Nat)} {kvs : List (Key × V)}, dkAt K (rows.map fun r => (r.1, eTN r.2)) kvs B → x ∈ rows.map (·.1) → ∃ v, valV kvs (.inr x : Key) = some v ∧ Dp K B v (eTN ((rows.lookup x).getD []))
  | [], _, _, h => by cases h
  | (y, l) :: rows, _, .cons (b := kv) hk t, h => by
    obtain ⟨h1, h2⟩ := hk
    by_cases e : x = y
    · subst e
      refine ⟨_, valV_pos h1, ?_⟩
      rw [List.lookup_cons, beq_self_eq_true]
      exact h2
    · have hb : (x == y) = false := by simpa using e
      rw [List.lookup_cons, hb]
      rcases List.mem_cons.mp h with h | h
      · exact absurd h e
      · obtain ⟨v, g1, g2⟩ := dk_val t h
        refine ⟨v, ?_, g2⟩
        rw [← g1]
        have hne : ¬ kv.1 = (Sum.inr x : Key) := fun z => by
          rw [h1] at z
          injection z with z
          exact e z.symm
        simp [valV, List.find?_cons, hne]
theorem dk_mv {K : PySem.W.Frag} {n : Nat} {rows : List (Str × List Nat)} {sh : List Int} {B : Hp} {v : V} (h : (dkM K (rows.map fun r => (r.1, eTN r.2))).p v B) : (mvM K (mkMac n rows sh)).p v B := by
  obtain ⟨d, kvs, rfl, hd, hk⟩ := h
  refine ⟨d, rfl, kvs, hd, ?_, fun x hx => dk_val hk hx⟩
  rw [dk_keys hk, List.map_map]
  show _ = (rows.map (·.1)).map Sum.inr
  rw [List.map_map]
  rfl
end K7
/-! Machine.__init__. -/
namespace K7
set_option pp.maxSteps 300
open PySem PySem.Spec PyProof.Rows L2
section
variable {X : Cx} {e : Expr} {σ : L2.St} {B H : Hp} {p1 p2 pos : Pos} {x C dx : Addr} {fs : List (Str × V)} {f : Str} {P : Mp} {D : Ends}
/-- self.f = e, where e does not look at self -/
theorem s_fld (hc : Cls X.K C) (hn : NoAttr X.K C f) (hl : fs.length < 1000) (hs : σ[0]? = some (some (.ref x))) (sb : Same B H) (hx : H x = some (.ins C dx fs)) (bx : B x = none) (he : EV X e σ B P)
    (k : ∀ v B1 H1, Nx B H B1 H1 → B1 x = none → P.p v B1 → D.nx σ (upd H1 x (.ins C dx (putF f v fs)))) (hN : X.N[0]? = some ("self" : Str) := by rfl) (hv : Vis X.env.scope "self" := by first | exact .inl rfl | exact .inr (.inl rfl) | exact .inr (.inr rfl))
    (hsw : swapsWith e (some (.Attribute (.Name "self" p1) f p2)) pos.line X.env = pure false := by rfl) : wS X (.Assign [.Attribute (.Name "self" p1) f p2] e pos) D σ H := by
  refine s_of (ps_fld (pe_var hN hv (by decide) (by decide)) pe_w hsw) (he H sb _ fun v B1 H1 x1 pv => ?_)
  exact ⟨_, hs, x, C, dx, fs, rfl, x1.h _ _ hx, hc, hn, hl, k v B1 H1 x1 (x1.off hx bx) pv⟩
/-- self.f = e, where e looks at self -/
theorem s_fldP (hc : Cls X.K C) (hn : NoAttr X.K C f) (hl : fs.length < 1000) (hs : σ[0]? = some (some (.ref x))) (sb : Same B H) (hx : H x = some (.ins C dx fs)) (bx : B x = none) (he : EV X e σ (upd B x (.ins C dx fs)) P)
    (k : ∀ v B1 B2 H1, Nx B H B1 H1 → B1 x = none → B2 x = some (.ins C dx fs) → B1 = offH B2 x → P.p v B2 → D.nx σ (upd H1 x (.ins C dx (putF f v fs)))) (hN : X.N[0]? = some ("self" : Str) := by rfl) (hv : Vis X.env.scope "self" := by first | exact .inl rfl | exact .inr (.inl rfl) | exact .inr (.inr rfl))
    (hsw : swapsWith e (some (.Attribute (.Name "self" p1) f p2)) pos.line X.env = pure false := by rfl) : wS X (.Assign [.Attribute (.Name "self" p1) f p2] e pos) D σ H := by
  refine s_of (ps_fld (pe_var hN hv (by decide) (by decide)) pe_w hsw) (peek sb hx bx he fun v B1 B2 H2 x1 b1 h2 b2 eo pv => ?_)
  exact ⟨_, hs, x, C, dx, fs, rfl, h2, hc, hn, hl, k v B1 B2 H2 x1 b1 b2 eo pv⟩
end
end K7
/-! The walk of Machine.__init__. -/
namespace K7
set_option pp.maxSteps 300
open PySem PySem.Spec PyProof.Rows L2
abbrev eRow (r : Str × List Nat) : PyData := .tuple [eS r.1, eTN r.2]
abbrev spIni (K : PySem.W.Frag) (C : Addr) : Sp := fun vs H Q _ => ∃ (n : Nat) (rows : List (Str × List Nat)) (sh : List Int) (B H0 : Hp) (x dx : Addr) (vn vd vs' : V), vs = [.ref x, vn, vd, vs'] ∧ Nx B H0 B H ∧ B x = none ∧ H0 x = none ∧ H x = some (.ins C dx []) ∧ Dp K B vn (eN n) ∧ Dp K B vd (.tuple (rows.map eRow)) ∧ Dp K B vs' (eTI sh) ∧ (mkMac n rows sh).Ok ∧
  ∀ B1 H1, Nx B H0 B1 H1 → (machM K C (mkMac n rows sh)).p (.ref x) B1 → Q .non H1
abbrev sIni : List Str := ["self", "many", "deeds", "shows", "names", "place", "name", "moves"]
theorem scIni : FnScope sIni ["self", "many", "deeds", "shows"] (defScope (inClass cM 0)) := ⟨rfl, rfl, rfl, by decide +kernel, rfl, by decide +kernel, by decide +kernel⟩
section
variable {P : Program} {w : World} {K : PySem.W.Frag} {mg : Str → Option Value} {base : Heap} {C g : Addr}
abbrev fxI (P : Program) (w : World) (K : PySem.W.Frag) (mg : Str → Option Value) (base : Heap) (z : Fz) : Cx := fx P w K mg base sIni "Machine.__init__" (inClass cM 0) z
theorem zip_at {α : Type} {l : List α} {i j : Nat} {a : α} (h : l.zipIdx[i]? = some (a, j)) : j = i ∧ l[i]? = some a := by
  rw [List.getElem?_zipIdx] at h
  cases e : l[i]? with
  | none =>
    rw [e] at h
    cases h
  | some b =>
    rw [e] at h
    simp at h
    exact ⟨h.2.symm, by rw [h.1]⟩
theorem nodup_take {α : Type} {l : List α} (nd : l.Nodup) {i : Nat} {a : α} (h : l[i]? = some a) : a ∉ l.take i := fun hm => by
  obtain ⟨k, hk, e⟩ := List.mem_iff_getElem.mp hm
  rw [List.length_take] at hk
  rw [List.getElem_take] at e
  obtain ⟨hi, e2⟩ := List.getElem?_eq_some_iff.mp h
  have := (List.getElem_inj nd).mp (e.trans e2.symm)
  omega
set_option maxHeartbeats 4000000 in
theorem ini_names (L : Bl mg) (z : Fz) {n : Nat} {rows : List (Str × List Nat)} {sh : List Int} {B H : Hp} {x : Addr} {vn vd vs' : V} (sb : Same B H) (hd : Dp K B vd (.tuple (rows.map eRow))) (hM : (mkMac n rows sh).Ok) {D : Ends}
    (k : ∀ v (o5 o6 : Option V) B1 H1, Nx B H B1 H1 → Dp K B1 v (.list ((rows.map (·.1)).map eS)) → wB (fxI P w K mg base z) ((defBody (inClass cM 0)).drop 2) D [some (.ref x), some vn, some vd, some vs', some v, o5, o6, none] H1) :
    wB (fxI P w K mg base z) (defBody (inClass cM 0)) D [some (.ref x), some vn, some vd, some vs', none, none, none, none] H := by
  have h5 : rows.length ≤ 5 := by
    have := hM.k5
    rwa [show (mkMac n rows sh).ks = rows.map (·.1) from rfl, List.length_map] at this
  have nd : (rows.map (·.1)).Nodup := hM.nd
  refine b_cons (s_lcM (X := fxI P w K mg base z) (own := [("name", 6), ("moves", 7)]) (i := 4) (its := rows) (g := fun r => eS r.1) rfl scIni.nd rfl rfl rfl (blkOk_by (N := sIni) (sc := defScope (inClass cM 0)) (by decide +kernel)) (sn_enc (sn_tup (ev_var 2 rfl hd))) (by omega)
    (fun r hr B' s v hv => ?_) sb fun v4 B1 H1 x1 p4 => ?_)
  · have hv : Dp K B' v (.tuple [eS r.1, eTN r.2]) := hv
    obtain ⟨T, a, b, ev, qT, pa, pb⟩ := dp_pair hv
    rw [ev]
    exact ⟨[some (.ref x), some vn, some vd, some vs', none, none, some a, some b], rfl, fun zz H' s' => tj_two 6 7 rfl scIni.nd (same_t s' qT), fun zz => ev_var 6 rfl pa⟩
  · have p4 : Dp K B1 v4 (.list ((rows.map (·.1)).map eS)) := by
      rw [List.map_map]
      exact p4
    refine b_cons (s_for (X := fxI P w K mg base z) PassesOwn.never rfl (sn_encE (sn_enumL L.enum (ev_var 4 rfl p4))) x1.s
      (fun i σ' B' H' => ∃ o5 o6, σ' = [some (.ref x), some vn, some vd, some vs', some v4, o5, o6, none] ∧ Same B1 B' ∧ Nx B H B' H') (fun B2 H2 x2 => ⟨none, none, rfl, x2.b, x1.trans x2⟩)
      (fun i it σ' B' H' B2 H2 v hi ⟨o5, o6, e, s1', x'⟩ x2 hv => ?_) (fun σ' B' H' s1 s2 ⟨o5, o6, e, s1', x'⟩ => ?_))
    · subst e
      obtain ⟨T, va, vb, ev, hT, pa, pb⟩ := hv
      rw [ev]
      have hi2 : ((rows.map (·.1)).zipIdx)[i]? = some it := hi
      have sB : Same B1 B2 := s1'.trans x2.b
      obtain ⟨nm, j⟩ := it
      obtain ⟨hj, hnm⟩ := zip_at hi2
      subst hj
      refine ⟨_, tj_pair 5 6 rfl scIni.nd (x2.s _ _ hT), ?_⟩
      refine b_cons (s_if (b := false) x2.s (ET.is (et_in (X := fxI P w K mg base z) (q := nm ∈ (rows.map (·.1)).take j) (ev_var 6 rfl pb) (ev_slL (ev_var 4 rfl (dp_same sB p4)) eo_no (eo_yes (ev_var 5 rfl pa))).ofL rfl (by rw [cut_map]; exact flat_eS _) (by rw [cut_map, mem_eS]; exact Iff.rfl)) ?_) (fun h => by cases h) (fun _ B3 H3 x3 => b_nil (b_nil ⟨B3, x3.b, x3.s, some va, some vb, rfl, sB.trans x3.b, (x'.trans x2).trans x3⟩)))
      exact decide_eq_false (nodup_take nd hnm)
    · subst e
      exact k v4 o5 o6 B' H' x' (dp_same s1 p4)
end
end K7
/-! The walk of Machine.__init__: the fields. -/
namespace K7
set_option pp.maxSteps 300
open PySem PySem.Spec PyProof.Rows L2
theorem pf_on {f g : Str} {v u : V} {r : List (Str × V)} (h : ¬ g = f) : putF f v ((g, u) :: r) = (g, u) :: putF f v r := if_neg h
theorem pf_nil {f : Str} {v : V} : putF f v [] = [(f, v)] := rfl
section
variable {X : Cx} {e : Expr} {σ : L2.St} {B : Hp} {pos : Pos} {x C dx : Addr} {fs : List (Str × V)} {f : Str} {v : V} {R : Mp}
theorem ev_fldI (hc : Cls X.K C) (hn : NoAttr X.K C f) (he : EV X e σ B (eqM (.ref x))) (hB : B x = some (.ins C dx fs)) (hl : fs.lookup f = some v) (hR : R.p v B) (hb : attributeBase e f X.env (eval e X.env) = eval e X.env := by rfl) : EV X (.Attribute e f pos) σ B R :=
  ev_of (pe_fld pe_w hb) fun H s Q q => he H s _ fun u B1 H1 x1 pu => by
    have pu : u = .ref x := pu
    exact ⟨x, C, dx, fs, v, pu, x1.h _ _ (s _ _ hB), hc, hn, hl, q v B1 H1 x1 (R.mono x1.b hR)⟩
end
section
variable {P : Program} {w : World} {K : PySem.W.Frag} {mg : Str → Option Value} {base : Heap} {C g : Addr}
set_option maxHeartbeats 4000000 in
theorem ini_flds (L : Bl mg) (Mc : Mcl K C) (Gmk : Gf P w K mg base 2 "marks_of" (spMarks K)) (Gbl : Gf P w K mg base 2 "blocks_of" (spBlocks K)) (z : Fz) (hr : Room 3 (fxI P w K mg base z).A) {n : Nat} {rows : List (Str × List Nat)} {sh : List Int} {Bo B H0 H : Hp} {x dx : Addr} {vn vd vs' v4 : V} {o5 o6 : Option V} (x0 : Nx Bo H0 B H) (bx0 : B x = none) (z0 : H0 x = none) (hx : H x = some (.ins C dx []))
    (hn : Dp K B vn (eN n)) (hd : Dp K B vd (.tuple (rows.map eRow))) (hs : Dp K B vs' (eTI sh)) (h4 : Dp K B v4 (.list ((rows.map (·.1)).map eS))) (hM : (mkMac n rows sh).Ok) {D : Ends}
    (k : ∀ (σ : L2.St) B1 H1, Nx Bo H0 B1 H1 → (machM K C (mkMac n rows sh)).p (.ref x) B1 → D.nx σ H1) :
    wB (fxI P w K mg base z) ((defBody (inClass cM 0)).drop 2) D [some (.ref x), some vn, some vd, some vs', some v4, o5, o6, none] H := by
  have h5 : rows.length ≤ 5 := by
    have := hM.k5
    rwa [show (mkMac n rows sh).ks = rows.map (·.1) from rfl, List.length_map] at this
  have nd : (rows.map (·.1)).Nodup := hM.nd
  refine b_cons (s_fld (X := fxI P w K mg base z) (P := dt K (eN n)) Mc.cl Mc.n1 (by simp) rfl x0.s hx bx0 (ev_var 1 rfl hn) fun u1 B1 H1 x1 b1 p1 => ?_)
  have p1 : u1 = .int (n : Nat) := dp_i p1
  subst p1
  rw [pf_nil]
  have xa := (x0.trans x1).hid (o := .ins C dx [(aMany, .int (n : Nat))]) z0 b1
  refine b_cons (s_fld (X := fxI P w K mg base z) (P := dt K (eTS (srt (rows.map (·.1))))) Mc.cl Mc.n2 (by simp) rfl xa.s upd_same b1 (ev_tupleL L.tuple (ev_sortT (l := rows.map (·.1)) L.sorted (ev_var 4 rfl (dp_same x1.b h4)) (by rw [List.length_map]; omega))) fun u2 B2 H2 x2 b2 p2 => ?_)
  rw [pf_on (by decide), pf_nil]
  have xb := (xa.trans x2).hid (o := .ins C dx [(aMany, .int (n : Nat)), (aNames, u2)]) z0 b2
  have s2 := x1.b.trans x2.b
  refine b_cons (s_fld (X := fxI P w K mg base z) (P := dkM K (rows.map fun r => (r.1, eTN r.2))) Mc.cl Mc.n3 (by simp) rfl xb.s upd_same b2 (ev_dictP rfl L.dict (EV.is (ev_lcM (own := [("name", 6), ("moves", 7)]) (its := rows) (g := eRow) rfl scIni.nd (blkOk_by (N := sIni) (sc := defScope (inClass cM 0)) (by decide +kernel)) (sn_enc (sn_tup (ev_var 2 rfl (dp_same s2 hd)))) (by omega)
    (fun r hr B' s v hv => ?_)) (by rw [List.map_map]; rfl)) (by rw [List.map_map]; exact nd)) fun u3 B3 H3 x3 b3 p3 => ?_)
  · have hv : Dp K B' v (.tuple [eS r.1, eTN r.2]) := hv
    obtain ⟨T, a, b, ev, qT, pa, pb⟩ := dp_pair hv
    rw [ev]
    exact ⟨[some (.ref x), some vn, some vd, some vs', some v4, o5, some a, some b], rfl, fun zz H' s' => tj_two 6 7 rfl scIni.nd (same_t s' qT), fun zz => ev_tup (ds := [eS r.1, eTN r.2]) (ea_cons (ev_var 6 rfl pa) (ea_cons (ev_tupleT (X := bx (fxI P w K mg base z) _ zz) L.tuple (ev_var 7 rfl pb)) ea_nil)) (show 2 ≤ 100000 by decide)⟩
  rw [pf_on (by decide), pf_on (by decide), pf_nil]
  have xc := (xb.trans x3).hid (o := .ins C dx [(aMany, .int (n : Nat)), (aNames, u2), (aMoves, u3)]) z0 b3
  have s3 := s2.trans x3.b
  refine b_cons (s_fld (X := fxI P w K mg base z) (P := dt K (eTI sh)) Mc.cl Mc.n4 (by simp) rfl xc.s upd_same b3 (ev_ite (k := false) (et_isN (X := fxI P w K mg base z) (ev_var (P := dt K (eTI sh)) 3 rfl (dp_same s3 hs))) (fun h => by cases h) (fun _ => ev_tupleT L.tuple (ev_var 3 rfl (dp_same s3 hs)))) fun u4 B4 H4 x4 b4 p4 => ?_)
  rw [pf_on (by decide), pf_on (by decide), pf_on (by decide), pf_nil]
  have xd := (xc.trans x4).hid (o := .ins C dx [(aMany, .int (n : Nat)), (aNames, u2), (aMoves, u3), (aShows, u4)]) z0 b4
  have s4 := s3.trans x4.b
  have sx : Same B4 (upd B4 x (.ins C dx [(aMany, .int (n : Nat)), (aNames, u2), (aMoves, u3), (aShows, u4)])) := same_new b4
  have ha : ∀ B', Same (upd B4 x (.ins C dx [(aMany, .int (n : Nat)), (aNames, u2), (aMoves, u3), (aShows, u4)])) B' → B' x = some (.ins C dx [(aMany, .int (n : Nat)), (aNames, u2), (aMoves, u3), (aShows, u4)]) := fun B' s => s _ _ upd_same
  have hnm : (mkMac n rows sh).nms.length ≤ 5 := by
    have := hM.pm.length_eq
    have := hM.k5
    omega
  refine b_cons (s_fldP (X := fxI P w K mg base z) (P := dt K (eLN (marks (mkMac n rows sh)))) Mc.cl Mc.n5 (by simp) rfl xd.s upd_same b4 (ev_cal (X := fxI P w K mg base z) (t := mkMac n rows sh) Gmk (hr.mono (by decide)) (ea_cons (ev_var 1 rfl (dp_same (s4.trans sx) hn)) (ea_cons (EV.is (ev_lcM (own := [("name", 6)]) (its := (mkMac n rows sh).nms) (g := fun nm => eTN ((mkMac n rows sh).mv nm)) rfl scIni.nd (blkOk_by (N := sIni) (sc := defScope (inClass cM 0)) (by decide +kernel)) (sn_enc (sn_tup (ev_fldI Mc.cl Mc.n2 (ev_var 0 rfl rfl) (ha _ (Same.refl _)) ((lk_on _ _ _ _ (by decide +kernel)).trans (lk_at _ _ _ _ rfl)) (dp_same ((x3.b.trans x4.b).trans sx) p2)))) (by omega)
    (fun nm hnm B' s v hv => ⟨[some (.ref x), some vn, some vd, some vs', some v4, o5, some v, none], rfl, fun zz H' s' => tj_name 6 scIni.nd, fun zz => ?_⟩)) rfl) (ea_cons (ev_fldI Mc.cl Mc.n4 (ev_var 0 rfl rfl) (ha _ (Same.refl _)) ((lk_on _ _ _ _ (by decide +kernel)).trans ((lk_on _ _ _ _ (by decide +kernel)).trans ((lk_on _ _ _ _ (by decide +kernel)).trans (lk_at _ _ _ _ rfl)))) (dp_same sx p4)) ea_nil))) hM) fun u5 B5 B6 H5 x5 b5 b6 eo p5 => ?_)
  · exact ev_getMv hr.u1 (ev_fldI (X := bx (fxI P w K mg base z) _ zz) Mc.cl Mc.n3 (ev_var 0 rfl rfl) (ha _ s) ((lk_on _ _ _ _ (by decide +kernel)).trans ((lk_on _ _ _ _ (by decide +kernel)).trans (lk_at _ _ _ _ rfl))) (dk_mv ((dkM _ _).mono ((x4.b.trans sx).trans s) p3))) (ev_var 6 rfl hv) (hM.pm.mem_iff.mp hnm)
  have p5 : Dp K B5 u5 (eLN (marks (mkMac n rows sh))) := by
    rw [eo]
    exact dp_off b6 p5
  rw [pf_on (by decide), pf_on (by decide), pf_on (by decide), pf_on (by decide), pf_nil]
  have xe := (xd.trans x5).hid (o := .ins C dx [(aMany, .int (n : Nat)), (aNames, u2), (aMoves, u3), (aShows, u4), (aMarks, u5)]) z0 b5
  have sy : Same B5 (upd B5 x (.ins C dx [(aMany, .int (n : Nat)), (aNames, u2), (aMoves, u3), (aShows, u4), (aMarks, u5)])) := same_new b5
  refine b_cons (s_fldP (X := fxI P w K mg base z) (P := dt K (eB (blocksL (firstsD ((marks (mkMac n rows sh)).map eN))))) Mc.cl Mc.n6 (by simp) rfl xe.s upd_same b5 (ev_cal (X := fxI P w K mg base z) (t := (marks (mkMac n rows sh)).map eN) Gbl (hr.mono (by decide)) (ea_cons (ev_fldI Mc.cl Mc.n5 (ev_var 0 rfl rfl) upd_same ((lk_on _ _ _ _ (by decide +kernel)).trans ((lk_on _ _ _ _ (by decide +kernel)).trans ((lk_on _ _ _ _ (by decide +kernel)).trans ((lk_on _ _ _ _ (by decide +kernel)).trans (lk_at _ _ _ _ rfl))))) (dp_same sy p5)) ea_nil) ⟨?_, ?_⟩) fun u6 B6 B7 H6 x6 b6 b7 eo6 p6 => ?_)
  · exact plainAll_map (n := 20) fun a _ => plain_eN 20 a
  · rw [List.length_map, marks_len hM.sl]
    exact Nat.le_trans hM.n4 (by decide)
  rw [pf_on (by decide), pf_on (by decide), pf_on (by decide), pf_on (by decide), pf_on (by decide), pf_nil]
  have xf := ((xe.trans x6).hid (o := .ins C dx [(aMany, .int (n : Nat)), (aNames, u2), (aMoves, u3), (aShows, u4), (aMarks, u5), (aKinds, u6)]) z0 b6).see z0 b6 upd_same
  have sz := same_new (o := .ins C dx [(aMany, .int (n : Nat)), (aNames, u2), (aMoves, u3), (aShows, u4), (aMarks, u5), (aKinds, u6)]) b6
  refine b_nil (k _ _ _ xf ⟨x, dx, u2, u3, u4, u5, u6, rfl, upd_same, ?_, ?_, ?_, ?_⟩)
  · exact dp_same ((((x3.b.trans x4.b).trans x5.b).trans x6.b).trans sz) p2
  · exact dk_mv ((dkM _ _).mono (((x4.b.trans x5.b).trans x6.b).trans sz) p3)
  · exact dp_same ((x5.b.trans x6.b).trans sz) p4
  · exact dp_same (x6.b.trans sz) p5
end
end K7
/-! Machine(many, deeds, shows). -/
namespace K7
set_option pp.maxSteps 300
open PySem PySem.Spec PyProof.Rows L2
section
variable {P : Program} {w : World} {K : PySem.W.Frag} {mg : Str → Option Value} {base : Heap} {C g : Addr}
theorem ok_ini (L : Bl mg) (Mc : Mcl K C) (D : Fd K "__init__" "Machine.__init__" (inClass cM 0) [.non] g) (Gmk : Gf P w K mg base 2 "marks_of" (spMarks K)) (Gbl : Gf P w K mg base 2 "blocks_of" (spBlocks K)) : Fo P w K mg base 4 g (spIni K C) := by
  obtain ⟨fd, F⟩ := D.ex
  have ok : FnOk P w K mg base CX0 4 g fd ["self", "many", "deeds", "shows"] (spIni K C) := F.ok scIni (fun vs H Q E h => by
    obtain ⟨n, rows, sh, B, H0, x, dx, vn, vd, vs', rfl, -⟩ := h
    rfl) fun cdv A outer s H vs Q E hr h => by
      obtain ⟨n, rows, sh, B, H0, x, dx, vn, vd, vs', rfl, x0, bx, z0, hx, hn, hd, hs, hM, q⟩ := h
      refine ⟨_, PSs.nox pb_w, ?_⟩
      refine ini_names L ⟨g, cdv, A, outer, s, H, E⟩ x0.s hd hM fun v4 o5 o6 B1 H1 x1 p4 => ?_
      exact ini_flds L Mc Gmk Gbl ⟨g, cdv, A, outer, s, H, E⟩ hr (x0.trans x1) (x1.off hx bx) z0 (x1.h _ _ hx) (dp_same x1.b hn) (dp_same x1.b hd) (dp_same x1.b hs) p4 hM fun σ B2 H2 x2 pm => q B2 H2 x2 pm
  obtain ⟨d1, r1, e1⟩ := F.binds1 (ps := ["self", "many", "deeds", "shows"]) 4 1 (by simp) (by simp) (fun _ _ _ _ _ _ _ us its h1 h2 => match us, its, h1, h2 with | [_, _, _, _], [_], _, _ => ⟨_, rfl, rfl⟩)
  exact ⟨fd, _, _, d1, _, ok, F.kp, e1, r1, fun vs H Q E h => by simpa using h⟩
end
section
variable {X : Cx} {e : Expr} {es : List Expr} {σ : L2.St} {B : Hp} {p pos : Pos} {C f : Addr} {x : Str} {n : Nat} {rows : List (Str × List Nat)} {sh : List Int}
theorem ev_make (Mk1 : Mk X.K C f) (F : Fo X.prog X.w X.K X.mg X.base 4 f (spIni X.K C)) (hr : Room 5 X.A) (hm : X.mg x = some (.ref C)) (hM : (mkMac n rows sh).Ok) (ha : EA X (e :: es) σ B [dt X.K (eN n), dt X.K (.tuple (rows.map eRow)), dt X.K (eTI sh)]) (hg : Gl X x := by rfl)
    (hdb : (x == ("__debug__" : Str)) = false := by decide) (he : starEach (e :: es) X.env = (false, eval e X.env) :: starEach es X.env := by rfl) (hpl : (backTo pos (starEach es X.env)).any (·.1) = false := by rfl) : EV X (.Call (.Name x p) (e :: es) [] pos) σ B (machM X.K C (mkMac n rows sh)) :=
  ev_of (StX.pe_makeR Mk1 F.raw hr hg hm pass0 pa_w hdb he hpl) fun H s Q q => ha H s _ fun vs B1 H1 x1 pv y dy hy hdy hne => by
    obtain ⟨vn, vd, vs', rfl, hn, hd, hs⟩ := allM3 pv
    have by1 : B1 y = none := same_no x1.s hy
    have bd1 : B1 dy = none := same_no x1.s hdy
    have xa := ((Nx.refl x1.s).hid (o := .own y) hdy bd1).hid (o := .ins C dy []) hy by1
    exact ⟨n, rows, sh, B1, H1, y, dy, vn, vd, vs', rfl, xa, by1, hy, upd_same, hn, hd, hs, hM, fun B2 H2 x2 pm => ⟨rfl, q _ B2 H2 (x1.trans x2) pm⟩⟩
end
end K7
/-! The box layer: a list of three numbers that is written at every draw, seen by nobody. -/
namespace K7
set_option pp.maxSteps 300
open PySem PySem.Spec PyProof.Rows L2
/-- the box: its third number leaves room for k more draws -/
def BoxAt (b : Addr) (k : Nat) (H : Hp) : Prop := ∃ x y z : Nat, H b = some (.lst [.int (x : Int), .int (y : Int), .int (z : Int)]) ∧ y < 2 ^ 62 ∧ z + k < 2 ^ 40
structure BSt (q : Addr) (B H : Hp) (k : Nat) : Prop where
  s : Same B H
  u : B q = none
  x : BoxAt q k H
/-- what a step may change: new things, and the box -/
structure NxB (q : Addr) (B H B' H' : Hp) : Prop where
  h : ∀ a o, a ≠ q → H a = some o → H' a = some o
  w : H q ≠ none → H' q ≠ none
  b : Same B B'
  s : Same B' H'
  o : ∀ a, H a ≠ none → B' a = B a
  n : ∀ a ps, H a = none → B' a ≠ some (.tbl ps)
section
variable {q : Addr} {B B0 B1 B2 H H1 H2 : Hp} {k j : Nat}
theorem BoxAt.som (h : BoxAt q k H) : H q ≠ none := by
  obtain ⟨x, y, z, e, _⟩ := h
  rw [e]
  exact fun z => by cases z
theorem BSt.le (S : BSt q B H k) (h : j ≤ k) : BSt q B H j := by
  obtain ⟨s, u, x, y, z, e, hy, hz⟩ := S
  exact ⟨s, u, x, y, z, e, hy, by omega⟩
theorem BoxAt.same (h : BoxAt q k H) (s : Same H H1) : BoxAt q k H1 := by
  obtain ⟨x, y, z, e, hy, hz⟩ := h
  exact ⟨x, y, z, s _ _ e, hy, hz⟩
theorem Nx.bx (x : Nx B H B1 H1) : NxB q B H B1 H1 := ⟨fun a o _ e => x.h a o e, same_some x.h, x.b, x.s, x.o, x.n⟩
theorem BSt.nx (S : BSt q B H k) (x : Nx B H B1 H1) : BSt q B1 H1 k := ⟨x.s, (x.o q S.x.som).trans S.u, S.x.same x.h⟩
theorem NxB.som (x : NxB q B H B1 H1) {a : Addr} (h : H a ≠ none) : H1 a ≠ none := by
  by_cases e : a = q
  · subst e
    exact x.w h
  · cases e2 : H a with
    | none => exact absurd e2 h
    | some o =>
      rw [x.h a o e e2]
      exact fun z => by cases z
theorem NxB.refl (s : Same B H) : NxB q B H B H := (Nx.refl s).bx
theorem NxB.trans (x : NxB q B H B1 H1) (y : NxB q B1 H1 B2 H2) : NxB q B H B2 H2 :=
  ⟨fun a o e h => y.h a o e (x.h a o e h), fun h => y.w (x.w h), x.b.trans y.b, y.s, fun a h => (y.o a (x.som h)).trans (x.o a h), fun a ps h e => by
    cases q : H1 a with
    | none => exact y.n a ps q e
    | some o =>
      rw [y.o a (by rw [q]; exact fun z => by cases z)] at e
      exact x.n a ps h e⟩
theorem NxB.more (x : NxB q B0 H B1 H1) (s : Same B0 B) (t : Same B H) (u : B q = none) : ∃ B2, NxB q B H B2 H1 ∧ Same B1 B2 := by
  refine ⟨fun a => if H a = none then B1 a else B a, ⟨x.h, x.w, fun a o e => ?_, fun a o e => ?_, fun a h => if_neg h, fun a ps h e => x.n a ps h ((if_pos h).symm.trans e)⟩, fun a o e => ?_⟩
  · have e1 : H a ≠ none := by
      rw [t a o e]
      exact fun z => by cases z
    show (if H a = none then B1 a else B a) = some o
    rw [if_neg e1]
    exact e
  · by_cases h : H a = none
    · rw [if_pos h] at e
      exact x.s a o e
    · rw [if_neg h] at e
      refine x.h a o (fun z => ?_) (t a o e)
      rw [z, u] at e
      cases e
  · by_cases h : H a = none
    · show (if H a = none then B1 a else B a) = some o
      rw [if_pos h]
      exact e
    · show (if H a = none then B1 a else B a) = some o
      rw [if_neg h]
      exact s a o ((x.o a h).symm.trans e)
theorem NxB.off (x : NxB q B H B1 H1) {a : Addr} (h : H a ≠ none) (g : B a = none) : B1 a = none := (x.o a h).trans g
theorem nxb_hid {p : Addr} {o : HO} (x : NxB q B H B1 H1) (hp : H p = none) (hb : B1 p = none) : NxB q B H B1 (upd H1 p o) :=
  ⟨fun a u n e => by
    have ha : a ≠ p := fun z => by rw [z, hp] at e; cases e
    rw [upd_ne ha]
    exact x.h a u n e, fun h => by
    by_cases ha : q = p
    · rw [ha, upd_same]
      exact fun z => by cases z
    · rw [upd_ne ha]
      exact x.w h, x.b, same_over x.s hb, x.o, x.n⟩
theorem nxb_see {p : Addr} {o : HO} (x : NxB q B H B1 H1) (hp : H p = none) (hb : B1 p = none) (h : H1 p = some o) (ho : ∀ ps, o ≠ .tbl ps := by intro _ h; cases h) : NxB q B H (upd B1 p o) H1 := by
  refine ⟨x.h, x.w, x.b.trans (same_new hb), fun a u e => ?_, fun a h => ?_, fun a ps h e => ?_⟩
  · by_cases ha : a = p
    · subst ha
      rw [upd_same] at e
      rw [h]
      exact e
    · rw [upd_ne ha] at e
      exact x.s a u e
  · have ha : a ≠ p := fun z => h (z ▸ hp)
    rw [upd_ne ha]
    exact x.o a h
  · by_cases ha : a = p
    · subst ha
      rw [upd_same] at e
      injection e with e
      exact ho ps e
    · rw [upd_ne ha] at e
      exact x.n a ps h e
/-- a thing that stands unseen and is written: all the same -/
theorem NoT.nxb (n : NoT B) (x : NxB q B H B1 H1) : NoT B1 := fun a ps e => by
  cases q : H a with
  | none => exact x.n a ps q e
  | some o =>
    rw [x.o a (by rw [q]; exact fun z => by cases z)] at e
    exact n a ps e
theorem BSt.hid {p : Addr} {o : HO} (S : BSt q B H k) (hp : p ≠ q) (hb : B p = none) : BSt q B (upd H p o) k := by
  obtain ⟨s, u, x, y, z, e, hy, hz⟩ := S
  exact ⟨same_over s hb, u, x, y, z, by rw [upd_ne (Ne.symm hp)]; exact e, hy, hz⟩
end
/-- some data of a kind -/
def exD {κ : Type} (K : PySem.W.Frag) (p : κ → Prop) (enc : κ → PyData) : Mp := ⟨fun v H => ∃ x, p x ∧ Dp K H v (enc x), fun s ⟨x, h, g⟩ => ⟨x, h, dp_same s g⟩⟩
/-- some value of a kind -/
def exM {κ : Type} (p : κ → Prop) (m : κ → Mp) : Mp := ⟨fun v H => ∃ x, p x ∧ (m x).p v H, fun s ⟨x, h, g⟩ => ⟨x, h, (m x).mono s g⟩⟩
/-- whatever -/
def anyM : Mp := ⟨fun _ _ => True, fun _ _ => True.intro⟩
def BV (X : Cx) (e : Expr) (σ : L2.St) (q : Addr) (B : Hp) (n : Nat) (P : Mp) : Prop := ∀ H k, BSt q B H (n + k) → ∀ Q : VK, (∀ v B1 H1, NxB q B H B1 H1 → BSt q B1 H1 k → P.p v B1 → Q v H1) → wE X e σ H Q
def BT (X : Cx) (e : Expr) (σ : L2.St) (q : Addr) (B : Hp) (n : Nat) (p : Bool → Prop) : Prop := ∀ H k, BSt q B H (n + k) → ∀ Q : Bool → Hp → Prop, (∀ c B1 H1, NxB q B H B1 H1 → BSt q B1 H1 k → p c → Q c H1) → wT X e σ H Q
def BA (X : Cx) (es : List Expr) (σ : L2.St) (q : Addr) (B : Hp) (n : Nat) (Ps : List Mp) : Prop := ∀ H k, BSt q B H (n + k) → ∀ Q : List V → Hp → Prop, (∀ vs B1 H1, NxB q B H B1 H1 → BSt q B1 H1 k → AllM Ps vs B1 → Q vs H1) → wA X es σ H Q
section
variable {X : Cx} {a b c e : Expr} {es : List Expr} {σ : L2.St} {q : Addr} {B B' H : Hp} {P P' R : Mp} {Ps : List Mp} {pos : Pos} {n m l : Nat} {p p1 p2 : Bool → Prop}
theorem same_off (s : Same B B') (u : B' q = none) : B q = none := by
  cases e : B q with
  | none => rfl
  | some o =>
    rw [s _ _ e] at u
    cases u
theorem BSt.less {B H : Hp} {k : Nat} (S : BSt q B' H k) (s : Same B B') : BSt q B H k := ⟨s.trans S.s, same_off s S.u, S.x⟩
theorem bst_see {B1 B2 H1 : Hp} {k : Nat} (S : BSt q B1 H1 k) (x : NxB q B H B2 H1) (h : H q ≠ none) (u : B q = none) : BSt q B2 H1 k := ⟨x.s, x.off h u, S.x⟩
theorem BV.mono (s : Same B B') (h : BV X e σ q B n P) : BV X e σ q B' n P := fun H k S Q g => h H k (S.less s) Q fun v B1 H1 x S1 p => by
  obtain ⟨B2, y, z⟩ := x.more s S.s S.u
  exact g v B2 H1 y (bst_see S1 y S.x.som S.u) (P.mono z p)
theorem BT.mono (s : Same B B') (h : BT X e σ q B n p) : BT X e σ q B' n p := fun H k S Q g => h H k (S.less s) Q fun v B1 H1 x S1 p => by
  obtain ⟨B2, y, z⟩ := x.more s S.s S.u
  exact g v B2 H1 y (bst_see S1 y S.x.som S.u) p
theorem BA.mono (s : Same B B') (h : BA X es σ q B n Ps) : BA X es σ q B' n Ps := fun H k S Q g => h H k (S.less s) Q fun v B1 H1 x S1 p => by
  obtain ⟨B2, y, z⟩ := x.more s S.s S.u
  exact g v B2 H1 y (bst_see S1 y S.x.som S.u) (AllM.mono z p)
theorem BV.le (h : BV X e σ q B n P) (i : n ≤ m) : BV X e σ q B m P := fun H k S Q g => h H k (S.le (by omega)) Q g
theorem BT.le (h : BT X e σ q B n p) (i : n ≤ m) : BT X e σ q B m p := fun H k S Q g => h H k (S.le (by omega)) Q g
theorem BA.le (h : BA X es σ q B n Ps) (i : n ≤ m) : BA X es σ q B m Ps := fun H k S Q g => h H k (S.le (by omega)) Q g
theorem EV.bv (h : EV X e σ B P) : BV X e σ q B n P := fun H k S Q g => h H S.s Q fun v B1 H1 x p => g v B1 H1 x.bx ((S.nx x).le (by omega)) p
theorem ET.bt {k : Bool} (h : ET X e σ B k) : BT X e σ q B n (· = k) := fun H j S Q g => h H S.s Q fun B1 H1 x => g k B1 H1 x.bx ((S.nx x).le (by omega)) rfl
theorem EA.ba (h : EA X es σ B Ps) : BA X es σ q B n Ps := fun H k S Q g => h H S.s Q fun v B1 H1 x p => g v B1 H1 x.bx ((S.nx x).le (by omega)) p
theorem BV.imp (h : BV X e σ q B n P) (i : ∀ v B1, Same B B1 → P.p v B1 → R.p v B1) : BV X e σ q B n R := fun H k S Q g => h H k S Q fun v B1 H1 x S1 p => g v B1 H1 x S1 (i v B1 x.b p)
theorem BT.imp (h : BT X e σ q B n p1) (i : ∀ c, p1 c → p2 c) : BT X e σ q B n p2 := fun H k S Q g => h H k S Q fun v B1 H1 x S1 p => g v B1 H1 x S1 (i v p)
theorem bv_of {t : TE} (p : PE X e t) (h : ∀ H k, BSt q B H (n + k) → ∀ Q : VK, (∀ v B1 H1, NxB q B H B1 H1 → BSt q B1 H1 k → P.p v B1 → Q v H1) → t σ H Q) : BV X e σ q B n P := fun H k S Q g => e_of p (h H k S Q g)
theorem bt_of {t : TT} {r : Bool → Prop} (p : PT X e t) (h : ∀ H k, BSt q B H (n + k) → ∀ Q : Bool → Hp → Prop, (∀ c B1 H1, NxB q B H B1 H1 → BSt q B1 H1 k → r c → Q c H1) → t σ H Q) : BT X e σ q B n r := fun H k S Q g => t_of p (h H k S Q g)
theorem ba_of {t : TA} (p : PA X es t) (h : ∀ H k, BSt q B H (n + k) → ∀ Q : List V → Hp → Prop, (∀ vs B1 H1, NxB q B H B1 H1 → BSt q B1 H1 k → AllM Ps vs B1 → Q vs H1) → t σ H Q) : BA X es σ q B n Ps := fun H k S Q g => a_of p (h H k S Q g)
/-- operators, by values -/
theorem bv_two {t : TE} {r : R2} (pp : PE X e t) (ht : ∀ H Q, (wE X a σ H fun x H1 => wE X b σ H1 fun y H2 => r x y H2 Q) → t σ H Q) (ha : BV X a σ q B n P) (hb : BV X b σ q B m P') (hr : ∀ x y B1, Same B B1 → P.p x B1 → P'.p y B1 → RV r x y B1 R) (hl : n + m ≤ l := by omega) : BV X e σ q B l R :=
  bv_of pp fun H k S Q g => ht H Q (ha H (m + k) (S.le (by omega)) _ fun x B1 H1 x1 S1 px => BV.mono x1.b hb H1 k S1 _ fun y B2 H2 x2 S2 py => hr x y B2 (x1.b.trans x2.b) (P.mono x2.b px) py H2 x2.s Q fun v B3 H3 x3 r => g v B3 H3 (x1.trans (x2.trans x3.bx)) (S2.nx x3) r)
theorem bv_bin {op : Operator} {r : R2} (ho : OpR X (binaryOp op) r) (ha : BV X a σ q B n P) (hb : BV X b σ q B m P') (hr : ∀ x y B1, Same B B1 → P.p x B1 → P'.p y B1 → RV r x y B1 R) (hl : n + m ≤ l := by omega) : BV X (.BinOp a op b pos) σ q B l R :=
  bv_two (pe_op ho pe_w pe_w) (fun H Q h => h) ha hb hr hl
theorem bv_cmp {op : CmpOp} {r : R2} (ho : OpR X (compareOp op) r) (hm : behindInMarks op b = false) (ha : BV X a σ q B n P) (hb : BV X b σ q B m P') (hr : ∀ x y B1, Same B B1 → P.p x B1 → P'.p y B1 → RV r x y B1 R) (hl : n + m ≤ l := by omega) : BV X (.Compare a [op] [b] pos) σ q B l R :=
  bv_two (pe_cmpR ho pe_w pe_w hm) (fun H Q h => h) ha hb hr hl
theorem bv_ix {r : R2} (ho : IxR X r) (hs : PlainIx b) (ha : BV X a σ q B n P) (hb : BV X b σ q B m P') (hr : ∀ x y B1, Same B B1 → P.p x B1 → P'.p y B1 → RV r x y B1 R) (hl : n + m ≤ l := by omega) : BV X (.Subscript a b pos) σ q B l R :=
  bv_two (pe_ix ho pe_w pe_w hs) (fun H Q h => h) ha hb hr hl
theorem bt_cmp {op : CmpOp} {r : R2} {pr : Bool → Prop} (ho : OpR X (compareOp op) r) (hm : behindInMarks op b = false) (ha : BV X a σ q B n P) (hb : BV X b σ q B m P') (hr : ∀ x y B1, Same B B1 → P.p x B1 → P'.p y B1 → ∃ k, pr k ∧ RV r x y B1 (eqM (.bl k))) (hl : n + m ≤ l := by omega) : BT X (.Compare a [op] [b] pos) σ q B l pr :=
  bt_of (pt_cmpR ho pe_w pe_w hm) fun H k S Q g => ha H (m + k) (S.le (by omega)) _ fun x B1 H1 x1 S1 px => BV.mono x1.b hb H1 k S1 _ fun y B2 H2 x2 S2 py => by
    obtain ⟨c, pc, h⟩ := hr x y B2 (x1.b.trans x2.b) (P.mono x2.b px) py
    exact h H2 x2.s _ fun v B3 H3 x3 r => ⟨c, r, g c B3 H3 (x1.trans (x2.trans x3.bx)) (S2.nx x3) pc⟩
theorem bt_val {pr : Bool → Prop} (h : BV X e σ q B n (exD X.K pr PyData.bool)) (he : ∀ whole, isTrue e X.env whole = (do let v ← whole; standAt e.pos; holding [v] (truthy v)) := by intro _; rfl) : BT X e σ q B n pr :=
  bt_of (pt_val pe_w he) fun H k S Q g => h H k S _ fun x B1 H1 x1 S1 ⟨c, pc, px⟩ => ⟨c, dp_b px, g c B1 H1 x1 S1 pc⟩
/-- arguments -/
theorem ba_nil : BA X [] σ q B n [] := (ea_nil (X := X)).ba
theorem ba_cons (he : BV X e σ q B n P) (hr : BA X es σ q B m Ps) (hl : n + m ≤ l := by omega) (hs : starEach (e :: es) X.env = (false, eval e X.env) :: starEach es X.env := by rfl) : BA X (e :: es) σ q B l (P :: Ps) :=
  ba_of (pa_cons pe_w pa_w hs) fun H k S Q g => he H (m + k) (S.le (by omega)) _ fun x B1 H1 x1 S1 px => BA.mono x1.b hr H1 k S1 _ fun vs B2 H2 x2 S2 pv => g (x :: vs) B2 H2 (x1.trans x2) S2 ⟨P.mono x2.b px, pv⟩
/-- a choice -/
theorem bv_ite {k : Bool} (h : ET X c σ B k) (g1 : k = true → BV X a σ q B n R) (g2 : k = false → BV X b σ q B n R) : BV X (.IfExp c a b pos) σ q B n R :=
  bv_of (pe_ifExp pt_w pe_w pe_w) fun H j S Q g => h H S.s _ fun B1 H1 x1 => by
    cases k with
    | true => exact iteT (BV.mono x1.b (g1 rfl) H1 j (S.nx x1) _ fun v B2 H2 x2 S2 pv => g v B2 H2 (x1.bx.trans x2) S2 pv)
    | false => exact iteF (BV.mono x1.b (g2 rfl) H1 j (S.nx x1) _ fun v B2 H2 x2 S2 pv => g v B2 H2 (x1.bx.trans x2) S2 pv)
theorem bv_iteB (h : BT X c σ q B n p) (g1 : p true → BV X a σ q B m R) (g2 : p false → BV X b σ q B m R) (hl : n + m ≤ l := by omega) : BV X (.IfExp c a b pos) σ q B l R :=
  bv_of (pe_ifExp pt_w pe_w pe_w) fun H j S Q g => h H (m + j) (S.le (by omega)) _ fun c B1 H1 x1 S1 pc => by
    cases c with
    | true => exact iteT (BV.mono x1.b (g1 pc) H1 j S1 _ fun v B2 H2 x2 S2 pv => g v B2 H2 (x1.trans x2) S2 pv)
    | false => exact iteF (BV.mono x1.b (g2 pc) H1 j S1 _ fun v B2 H2 x2 S2 pv => g v B2 H2 (x1.trans x2) S2 pv)
/-- a known test ahead of a drawn one -/
theorem bt_and {k : Bool} (h : ET X a σ B k) (g : k = true → BT X b σ q B n p) (hf : k = false → p false) : BT X (.BoolOp .And [a, b] pos) σ q B n p :=
  bt_of (PW.pt (pw_and pt_w (pw_and1 pt_w))) fun H j S Q q' => h H S.s _ fun B1 H1 x1 => by
    cases k with
    | true => exact iteT (BT.mono x1.b (g rfl) H1 j (S.nx x1) _ fun c B2 H2 x2 S2 pc => q' c B2 H2 (x1.bx.trans x2) S2 pc)
    | false => exact iteF (q' false B1 H1 x1.bx ((S.nx x1).le (by omega)) (hf rfl))
end
end K7
/-! The box layer, second part: promises, calls, comprehensions, statements. -/
namespace K7
set_option pp.maxSteps 300
open PySem PySem.Spec PyProof.Rows L2
def spB {T : Type} (args : T → List Mp) (pre : T → Prop) (n : T → Nat) (res : T → Mp) : Sp := fun vs H Q _ => ∃ (t : T) (q : Addr) (B : Hp) (k : Nat) (us : List V), vs = .ref q :: us ∧ BSt q B H (n t + k) ∧ AllM (args t) us B ∧ pre t ∧ ∀ v B1 H1, NxB q B H B1 H1 → BSt q B1 H1 k → (res t).p v B1 → Q v H1
abbrev DnB (q : Addr) (B H : Hp) (k : Nat) (R : Mp) : Ends := { nx := fun _ H' => ∃ B', NxB q B H B' H' ∧ BSt q B' H' k ∧ R.p .non B', rt := fun v H' => ∃ B', NxB q B H B' H' ∧ BSt q B' H' k ∧ R.p v B' }
section
variable {P : Program} {w : World} {K : PySem.W.Frag} {mg : Str → Option Value} {base : Heap} {x qual : Str} {st : Stmt} {f : Addr} {N ps : List Str} {k : Nat} {sp : Sp}
theorem Gd.box {T : Type} {args : T → List Mp} {pre : T → Prop} {n : T → Nat} {res : T → Mp} (D : Gd K mg x st []) (S : FnScope N ps (defScope st)) (hl : ∀ t, (args t).length + 1 = ps.length) (hb : BindOk x x st ps)
    (body : ∀ (z : Fz) (vs : List V) (q : Addr) (B : Hp) (j : Nat) (t : T), pre t → AllM (args t) vs B → BSt q B z.H (n t + j) → Room k (fx P w K mg base N x st z).A → wB (fx P w K mg base N x st z) (defBody st) (DnB q B z.H j (res t)) (start N (.ref q :: vs)) z.H) : Gf P w K mg base (k + 1) x (spB args pre n res) := by
  refine D.any S (fun vs H Q E h => ?_) hb fun z vs Q hr h => ?_
  · obtain ⟨t, q, B, j, us, rfl, _, ha, _⟩ := h
    rw [List.length_cons, allM_len ha, hl t]
  · obtain ⟨t, q, B, j, us, rfl, S, ha, hp, h⟩ := h
    exact b_imp (body z us q B j t hp ha S hr) (fun σ' H' ⟨B1, x, S1, r⟩ => h _ _ _ x S1 r) (fun v H' ⟨B1, x, S1, r⟩ => h _ _ _ x S1 r) (fun _ _ z => z.elim) fun _ _ z => z.elim
end
section
variable {X : Cx} {a b c e : Expr} {es : List Expr} {σ : L2.St} {q : Addr} {B B' H : Hp} {P P' R : Mp} {Ps : List Mp} {p pos apos : Pos} {n m l k : Nat} {x : Str} {sp : Sp}
theorem bv_call {T : Type} {args : T → List Mp} {pre : T → Prop} {nn : T → Nat} {res : T → Mp} (t : T) (G : Gf X.prog X.w X.K X.mg X.base k x (spB args pre nn res)) (hr : Room k X.A) (he : EV X e σ B (eqM (.ref q))) (ha : BA X es σ q B n (args t)) (hp : pre t) (hl : n + nn t ≤ l) (hg : Gl X x := by rfl) (hdb : (x == ("__debug__" : Str)) = false := by decide)
    (hs : starEach (e :: es) X.env = (false, eval e X.env) :: starEach es X.env := by rfl) (hpl : (backTo pos (starEach es X.env)).any (·.1) = false := by rfl) : BV X (.Call (.Name x p) (e :: es) [] pos) σ q B l (res t) :=
  fun H j S Q g => w_call G hr (ba_cons (P := eqM (.ref q)) (he.bv (n := 0)) ha (Nat.le_of_eq (Nat.zero_add n)) hs H (nn t + j) (S.le (by omega)) _ fun vs B1 H1 x1 S1 pv => by
    match vs, pv with
    | v :: us, pv =>
      have e1 : v = .ref q := pv.1
      subst e1
      exact ⟨t, q, B1, j, us, rfl, S1, pv.2, hp, fun v B2 H2 x2 S2 r => g v B2 H2 (x1.trans x2) S2 r⟩
    | [], pv => exact pv.elim) hg hdb hs hpl
/-- built-ins by name -/
theorem bv_blt {id : String} {r : List V → Hp → VK → Prop} (hc : CallR X (.builtin id) r) (hm : X.mg x = none) (hv : bootBuiltins x = some (.builtin id)) (ha : BA X (e :: es) σ q B n Ps) (h : ∀ vs B1, Same B B1 → AllM Ps vs B1 → RC r vs B1 R) (hg : Gl X x := by rfl)
    (hn : x ≠ "__name__" := by decide) (hdb : (x == ("__debug__" : Str)) = false := by decide) (he : starEach (e :: es) X.env = (false, eval e X.env) :: starEach es X.env := by rfl) (hpl : (backTo pos (starEach es X.env)).any (·.1) = false := by rfl) : BV X (.Call (.Name x p) (e :: es) [] pos) σ q B n R :=
  bv_of (pe_callB hc hg hm hv pa_w hn hdb he hpl) fun H j S Q g => ha H j S _ fun vs B1 H1 x1 S1 pv => h vs B1 x1.b pv H1 x1.s Q fun v B2 H2 x2 r => g v B2 H2 (x1.trans x2.bx) (S1.nx x2) r
theorem bv_bty {id : String} {r : List V → Hp → VK → Prop} (hc : CallR X (.type id) r) (hm : X.mg x = none) (hv : bootBuiltins x = some (.type id)) (ha : BA X (e :: es) σ q B n Ps) (h : ∀ vs B1, Same B B1 → AllM Ps vs B1 → RC r vs B1 R) (hg : Gl X x := by rfl)
    (hn : x ≠ "__name__" := by decide) (hdb : (x == ("__debug__" : Str)) = false := by decide) (he : starEach (e :: es) X.env = (false, eval e X.env) :: starEach es X.env := by rfl) (hpl : (backTo pos (starEach es X.env)).any (·.1) = false := by rfl) : BV X (.Call (.Name x p) (e :: es) [] pos) σ q B n R :=
  bv_of (pe_callTy hc hg hm hv pa_w hn hdb he hpl) fun H j S Q g => ha H j S _ fun vs B1 H1 x1 S1 pv => h vs B1 x1.b pv H1 x1.s Q fun v B2 H2 x2 r => g v B2 H2 (x1.trans x2.bx) (S1.nx x2) r
/-- tuple(a list that was drawn) -/
theorem bv_tupleL {κ : Type} {pr : κ → Prop} {enc : κ → List PyData} (hm : X.mg "tuple" = none) (ha : BV X a σ q B n (exD X.K pr fun l => .list (enc l))) (hg : Gl X "tuple" := by rfl) (he : starEach [a] X.env = (false, eval a X.env) :: starEach [] X.env := by rfl) : BV X (.Call (.Name "tuple" p) [a] [] pos) σ q B n (exD X.K pr fun l => .tuple (enc l)) :=
  bv_bty call_tuple_of hm boot_tuple (ba_cons (m := 0) ha ba_nil (Nat.le_refl n) he) (fun vs B1 _ h => by
    obtain ⟨v, rfl, y, py, g⟩ := allM1 h
    obtain ⟨t, xs, rfl, hl, hd⟩ := dp_l g
    exact fun H s Q q => ⟨t, xs, rfl, .inl ⟨same_l s hl, fun p hp => by
      have x1 := (Nx.refl s).put (o := .tup xs) hp
      exact q _ _ _ x1 ⟨y, py, .tup (.inl (.inl upd_same)) (dpa_same x1.b hd)⟩⟩⟩) hg (by decide) (by decide) he rfl
end
/-- items, one by one, of a row that was drawn -/
def SNB {ι : Type} (X : Cx) (tg iter : Expr) (σ : L2.St) (q : Addr) (B : Hp) (n : Nat) (ok : List ι → Prop) (S : ι → Mp) : Prop := ∀ H k, BSt q B H (n + k) → ∀ R : It → Hp → Prop,
  (∀ its J B1 H1, ok its → NxB q B H B1 H1 → BSt q B1 H1 k → Walk J its.length (fun H' => Same B1 H') (fun i H' v H'' => Same H' H'' ∧ ∃ it B2, its[i]? = some it ∧ Nx B1 H' B2 H'' ∧ (S it).p v B2) → R J H1) → wI X tg iter σ H R
section
variable {X : Cx} {ι : Type} {tg iter e : Expr} {σ : L2.St} {q : Addr} {B B' H : Hp} {its : List ι} {S : ι → Mp} {pos p : Pos} {n : Nat}
theorem SN.bv (h : SN X tg iter σ B its S) : SNB X tg iter σ q B n (· = its) S := fun H k St R r => h H St.s R fun J B1 H1 x1 w => r its J B1 H1 rfl x1.bx ((St.nx x1).le (by omega)) w
theorem snb_list {κ : Type} {ok : List κ → Prop} {enc : κ → PyData} (h : BV X iter σ q B n (exD X.K ok fun l => .list (l.map enc))) : SNB X tg iter σ q B n ok fun a => dt X.K (enc a) := fun H k St R r => i_of (pi_list pe_w) (h H k St _ fun v B1 H1 x1 S1 ⟨l, ol, pv⟩ => by
  obtain ⟨a, xs, rfl, hl, hd⟩ := dp_l pv
  refine ⟨a, rfl, ⟨xs, same_l x1.s hl⟩, r l _ _ _ ol x1 S1 ?_⟩
  have e1 := dpa_len hd
  rw [List.length_map] at e1
  rw [← e1]
  exact walk_list.mono (fun H' s => same_l s hl) fun i H' x H'' _ s y => by
    obtain ⟨rfl, e⟩ := y
    obtain ⟨d, e2, g⟩ := dpa_at hd e
    rw [List.getElem?_map] at e2
    cases e3 : l[i]? with
    | none =>
      rw [e3] at e2
      cases e2
    | some it =>
      rw [e3] at e2
      cases e2
      exact ⟨Same.refl _, it, B1, rfl, Nx.refl s, g⟩)
theorem snb_range {pr : Nat → Prop} (hm : X.mg "range" = none) (h : BV X e σ q B n (exD X.K pr eN)) (hn : ∀ i, pr i → i ≤ 100000) (hg : Gl X "range" := by rfl) (hs : starEach [e] X.env = (false, eval e X.env) :: starEach [] X.env := by rfl) :
    SNB X tg (.Call (.Name "range" p) [e] [] pos) σ q B n (fun its => ∃ i, pr i ∧ its = List.range i) fun i => dt X.K (eN i) := fun H k St R r => i_of (pi_range1 hg hm (pa_cons pe_w pa_nil hs) hs) (h H k St _ fun v B1 H1 x1 S1 ⟨m, pm, pv⟩ => by
  have e := dp_i pv
  subst e
  have hm := hn m pm
  refine ⟨m, rfl, by omega, by omega, r (List.range m) _ _ _ ⟨m, pm, rfl⟩ x1 S1 ?_⟩
  rw [List.length_range]
  exact (walk_range (lo := 0) (n := m)).mono (fun _ _ => True.intro) fun i H' x H'' hi s y => by
    obtain ⟨rfl, rfl⟩ := y
    refine ⟨Same.refl _, i, B1, by rw [List.getElem?_range hi], Nx.refl s, ?_⟩
    show Dp X.K B1 (V.int (0 + (i : Nat))) (.int (i : Nat))
    rw [Int.zero_add]
    exact .int _)
end
/-! ### comprehensions that draw -/
def BTs (X : Cx) (ifs : List Expr) (σ : L2.St) (q : Addr) (B : Hp) (n : Nat) (p : Bool → Prop) : Prop := ∀ H k, BSt q B H (n + k) → ∀ Q : Bool → Hp → Prop, (∀ c B1 H1, NxB q B H B1 H1 → BSt q B1 H1 k → p c → Q c H1) → wTs X ifs σ H Q
theorem bts_nil {X : Cx} {σ : L2.St} {q : Addr} {B : Hp} {n : Nat} : BTs X [] σ q B n (· = true) := fun H k S Q g => wTs_i fun pins s' I => (pts_nil (X := X)).run pins s' σ H Q I (g true B H (NxB.refl S.s) (S.le (by omega)) rfl)
theorem bts_one {X : Cx} {c : Expr} {σ : L2.St} {q : Addr} {B : Hp} {n : Nat} {p : Bool → Prop} (h : BT X c σ q B n p) : BTs X [c] σ q B n p := fun H k S Q g => wTs_i fun pins s' I => (pts_one (pt_w (X := X) (e := c))).run pins s' σ H Q I (h H k S Q g)
section
variable {X : Cx} {ι κ : Type} {elt tg iter : Expr} {ifs : List Expr} {scope : Scope} {own : List (Str × Nat)} {pos : Pos} {σ : L2.St} {q : Addr} {B H : Hp} {its : List ι} {S : ι → Mp} {n n0 j L m : Nat} {tp : ι → Bool → Prop} {pm : ι → κ → Prop} {enc : κ → PyData}
/-- one turn -/
def TurnB (X : Cx) (scope : Scope) (vs : List Nat) (tg elt : Expr) (ifs : List Expr) (σ : L2.St) (q : Addr) (B : Hp) (S : ι → Mp) (n : Nat) (tp : ι → Bool → Prop) (pm : ι → κ → Prop) (enc : κ → PyData) (it : ι) : Prop :=
  ∀ B', Same B B' → B' q = none → ∀ v, (S it).p v B' → ∃ σ' n1 n2, n1 + n2 ≤ n ∧ wipe σ' vs = wipe σ vs ∧ (∀ z H', Same B' H' → TJ (bx X scope z) tg (wipe σ vs) v H' σ') ∧ (∀ z, BTs (bx X scope z) ifs σ' q B' n1 (tp it)) ∧ ∀ z, BV (bx X scope z) elt σ' q B' n2 (exD X.K (pm it) enc)
theorem lc_readB {J : It} {D : Addr} {B1 H1 : Hp} {Qd : Hp → Prop} {vs : List Nat} (R : Nat → List κ → Prop) (hz : its.length ≤ 100000) (s0 : Same B B1) (S1 : BSt q B1 H1 (its.length * n + j)) (w : Walk J its.length (fun H' => Same B1 H') (fun i H' v H'' => Same H' H'' ∧ ∃ it B2, its[i]? = some it ∧ Nx B1 H' B2 H'' ∧ (S it).p v B2)) (hD : H1 D = none)
    (h0 : R 0 []) (hno : ∀ i it l, its[i]? = some it → tp it false → R i l → R (i + 1) l) (hyes : ∀ i it l x, its[i]? = some it → tp it true → pm it x → R i l → R (i + 1) (l ++ [x]))
    (turn : ∀ it ∈ its, TurnB X scope vs tg elt ifs σ q B S n tp pm enc it) (hd : ∀ B' H' acc l, NxB q B1 H1 B' H' → BSt q B' H' j → H' D = some (.lst acc) → B' D = none → R its.length l → DpAll X.K B' acc (l.map enc) → Qd H') :
    ∃ W : Nat → Nat → Hp → Prop, (∃ m, W 0 m (upd H1 D (.lst []))) ∧ ∀ i m H, W i m H →
      (J.stop i H ∧ Qd H) ∨ (J.go i H ∧ ∃ Nx : Hp → Prop, (∀ H', Nx H' → ∃ m', m' < m ∧ W (i + 1) m' H') ∧ ∀ x H', J.yld i H x H' → wGz X scope tg x (wipe σ vs) H' fun σ2 H2 => wipe σ2 vs = wipe σ vs ∧ wTz X scope ifs σ2 H2 fun b H3 =>
        if b = true then wEz X scope elt σ2 H3 fun y H4 => ∃ acc, H4 D = some (.lst acc) ∧ acc.length < sizeLine ∧ Nx (upd H4 D (.lst (acc ++ [y]))) else Nx H3) := by
  have b1D : B1 D = none := same_no S1.s hD
  have hDq : D ≠ q := fun z => S1.x.som (z ▸ hD)
  refine lc_it w (fun i H' => ∃ B' acc l, NxB q B1 H1 B' H' ∧ BSt q B' H' ((its.length - i) * n + j) ∧ B' D = none ∧ H' D = some (.lst acc) ∧ l.length ≤ i ∧ R i l ∧ DpAll X.K B' acc (l.map enc)) ?_ ?_ ?_ ?_
  · exact ⟨B1, [], [], nxb_hid (NxB.refl S1.s) hD b1D, S1.hid hDq b1D, b1D, upd_same, Nat.le_refl _, h0, .nil⟩
  · rintro i H' _ ⟨B', acc, l, x, _⟩
    exact x.b.trans x.s
  · rintro i x H' H'' hi ⟨B', acc, l, xn, S', bD, hl, hle, hR, hda⟩ ⟨sy, it, B2, hit, xy, hS⟩ z
    have hmem : it ∈ its := List.mem_of_getElem? hit
    obtain ⟨B3, x3, s3⟩ := xy.more xn.b xn.s
    have hl3 : H'' D = some (.lst acc) := sy _ _ hl
    have b3D : B3 D = none := (x3.o D (by rw [hl]; exact fun z => by cases z)).trans bD
    have xt := xn.trans x3.bx
    have S3 := S'.nx x3
    have hda3 := dpa_same x3.b hda
    obtain ⟨σ', n1, n2, hn, hw, hTJ, hT, hE⟩ := turn it hmem B3 (s0.trans xt.b) S3.u x ((S it).mono s3 hS)
    refine hTJ z H'' x3.s _ ⟨hw, ?_⟩
    intro z2
    have hcnt : (its.length - i) * n = (its.length - (i + 1)) * n + n := by
      rw [show its.length - i = (its.length - (i + 1)) + 1 from by omega, Nat.succ_mul]
    refine hT z2 H'' (n2 + ((its.length - (i + 1)) * n + j)) (S3.le (by omega)) _ fun c B4 H4 x4 S4 pc => ?_
    have b4D : B4 D = none := x4.off (by rw [hl3]; exact fun z => by cases z) b3D
    have hl4 : H4 D = some (.lst acc) := x4.h _ _ hDq hl3
    cases c with
    | true =>
      refine iteT ?_
      intro z3
      refine BV.mono x4.b (hE z3) H4 _ S4 _ fun y B5 H5 x5 S5 ⟨k, pk, py⟩ => ?_
      have b5D : B5 D = none := x5.off (by rw [hl4]; exact fun z => by cases z) b4D
      have hl5 : H5 D = some (.lst acc) := x5.h _ _ hDq hl4
      have hlen : acc.length ≤ 100000 := by
        have h1 := dpa_len hda
        rw [List.length_map] at h1
        omega
      refine ⟨acc, hl5, Nat.lt_of_le_of_lt hlen (by decide), B5, acc ++ [y], l ++ [k], nxb_hid (xt.trans (x4.trans x5)) hD b5D, S5.hid hDq b5D, b5D, upd_same, by rw [List.length_append]; exact Nat.succ_le_succ hle, hyes i it l k hit pc pk hR, ?_⟩
      rw [List.map_append]
      exact dpa_snoc (dpa_same x5.b (dpa_same x4.b hda3)) py
    | false => exact iteF ⟨B4, acc, l, xt.trans x4, S4.le (by omega), b4D, hl4, by omega, hno i it l hit pc hR, dpa_same x4.b hda3⟩
  · rintro H' ⟨B', acc, l, x, S', bD, hl, hle, hR, hda⟩
    exact hd B' H' acc l x (S'.le (by omega)) hl bD hR hda
theorem bv_lc {okL : List ι → Prop} {pr : List κ → Prop} (R : List ι → Nat → List κ → Prop) (hc : X.calm = true) (hN : X.N.Nodup) (ok : BlkOk X.N X.env.scope scope own) (src : SNB X tg iter σ q B n0 okL S) (hz : ∀ its, okL its → its.length ≤ L) (hL : L ≤ 100000)
    (h0 : ∀ its, okL its → R its 0 []) (hno : ∀ its i it l, its[i]? = some it → tp it false → R its i l → R its (i + 1) l) (hyes : ∀ its i it l x, its[i]? = some it → tp it true → pm it x → R its i l → R its (i + 1) (l ++ [x]))
    (turn : ∀ its, okL its → ∀ it ∈ its, TurnB X scope (own.map (·.2)) tg elt ifs σ q B S n tp pm enc it) (hres : ∀ its l, okL its → R its its.length l → pr l) (hm : n0 + L * n ≤ m)
    (hs : ∀ x, foldedSetIterable iter X.env x = pure x := by intro _; rfl) : BV X (.ListComp elt [⟨tg, iter, ifs, 0⟩] scope pos) σ q B m (exD X.K pr fun l => .list (l.map enc)) :=
  bv_of (pe_lc (g := wGz X scope tg) (tt := wTz X scope ifs) (te := wEz X scope elt) hc hN pi_w ok (fun s H C cl fp => ⟨fun pins s' σ' H' v u Q I r h => wG_o (h ⟨s, H, C, cl, fp⟩) pins s' u I r⟩)
      (fun s H C cl fp => ⟨fun pins s' σ' H' Q I h => wTs_o (h ⟨s, H, C, cl, fp⟩) pins s' I⟩) (fun s H C cl fp => ⟨fun pins s' σ' H' Q I h => wE_o (h ⟨s, H, C, cl, fp⟩) pins s' I⟩) hs)
    fun H k St Q g => src H (L * n + k) (St.le (by omega)) _ fun its J B1 H1 ol x1 S1 w D hD => by
      have hle := hz its ol
      have hmul : its.length * n ≤ L * n := Nat.mul_le_mul_right n hle
      exact lc_readB (n := n) (j := k) (R its) (Nat.le_trans hle hL) x1.b (S1.le (by omega)) w hD (h0 its ol) (hno its) (hyes its) (turn its ol) fun B' H' acc l x S' hl bD hR hda => g _ (upd B' D (.lst acc)) H' (x1.trans (nxb_see x hD bD hl)) (bst_see S' (nxb_see x hD bD hl) S1.x.som S1.u) ⟨l, hres its l ol hR, .lst (.inl (.inl upd_same)) (dpa_same (same_new bD) hda)⟩
theorem s_lcB {i : Nat} {y : Str} {py spos : Pos} {D : Ends} {k : Nat} {okL : List ι → Prop} {pr : List κ → Prop} (R : List ι → Nat → List κ → Prop) (hc : X.calm = true) (hN : X.N.Nodup) (hy : X.N[i]? = some y) (hyl : X.env.scope.names.lookup y = some .local) (hsw : swapsWith (.ListComp elt [⟨tg, iter, ifs, 0⟩] scope pos) (some (.Name y py)) spos.line X.env = pure true)
    (ok : BlkOk X.N X.env.scope scope own) (src : SNB X tg iter σ q B n0 okL S) (hz : ∀ its, okL its → its.length ≤ L) (hL : L ≤ 100000)
    (h0 : ∀ its, okL its → R its 0 []) (hno : ∀ its i it l, its[i]? = some it → tp it false → R its i l → R its (i + 1) l) (hyes : ∀ its i it l x, its[i]? = some it → tp it true → pm it x → R its i l → R its (i + 1) (l ++ [x]))
    (turn : ∀ its, okL its → ∀ it ∈ its, TurnB X scope (own.map (·.2)) tg elt ifs σ q B S n tp pm enc it) (hres : ∀ its l, okL its → R its its.length l → pr l) (St : BSt q B H (n0 + L * n + k))
    (kk : ∀ v B1 H1 l, NxB q B H B1 H1 → BSt q B1 H1 k → pr l → Dp X.K B1 v (.list (l.map enc)) → D.nx (σ.set i (some v)) H1) (hs : ∀ x, foldedSetIterable iter X.env x = pure x := by intro _; rfl) : wS X (.Assign [.Name y py] (.ListComp elt [⟨tg, iter, ifs, 0⟩] scope pos) spos) D σ H :=
  s_of (ps_setLc (g := wGz X scope tg) (tt := wTz X scope ifs) (te := wEz X scope elt) hc hN hy hyl hsw pi_w ok (fun s H C cl fp => ⟨fun pins s' σ' H' v u Q I r h => wG_o (h ⟨s, H, C, cl, fp⟩) pins s' u I r⟩)
      (fun s H C cl fp => ⟨fun pins s' σ' H' Q I h => wTs_o (h ⟨s, H, C, cl, fp⟩) pins s' I⟩) (fun s H C cl fp => ⟨fun pins s' σ' H' Q I h => wE_o (h ⟨s, H, C, cl, fp⟩) pins s' I⟩) hs)
    (src H (L * n + k) (St.le (by omega)) _ fun its J B1 H1 ol x1 S1 w D hD => by
      have hle := hz its ol
      have hmul : its.length * n ≤ L * n := Nat.mul_le_mul_right n hle
      exact lc_readB (n := n) (j := k) (R its) (Nat.le_trans hle hL) x1.b (S1.le (by omega)) w hD (h0 its ol) (hno its) (hyes its) (turn its ol) fun B' H' acc l x S' hl bD hR hda => kk _ (upd B' D (.lst acc)) H' l (x1.trans (nxb_see x hD bD hl)) (bst_see S' (nxb_see x hD bD hl) S1.x.som S1.u) (hres its l ol hR) (.lst (.inl (.inl upd_same)) (dpa_same (same_new bD) hda)))
/-- a row of drawn things, one for each item -/
def lenR (its : List ι) (i : Nat) (l : List κ) : Prop := l.length = i
/-- some of the items -/
theorem sub_take {its js : List ι} {i : Nat} {it : ι} (h : its[i]? = some it) (g : js.Sublist (its.take i)) : js.Sublist (its.take (i + 1)) ∧ (js ++ [it]).Sublist (its.take (i + 1)) := by
  rw [List.take_add_one, h]
  exact ⟨g.trans (List.sublist_append_left _ _), g.append (List.Sublist.refl _)⟩
/-- [e for x in ..], e drawn -/
theorem bv_lcM {okL : List ι → Prop} {pr : List κ → Prop} {pk : κ → Prop} (hc : X.calm = true) (hN : X.N.Nodup) (ok : BlkOk X.N X.env.scope scope own) (src : SNB X tg iter σ q B n0 okL S) (hz : ∀ its, okL its → its.length ≤ L) (hL : L ≤ 100000)
    (turn : ∀ its, okL its → ∀ it ∈ its, ∀ B', Same B B' → B' q = none → ∀ v, (S it).p v B' → ∃ σ', wipe σ' (own.map (·.2)) = wipe σ (own.map (·.2)) ∧ (∀ z H', Same B' H' → TJ (bx X scope z) tg (wipe σ (own.map (·.2))) v H' σ') ∧ ∀ z, BV (bx X scope z) elt σ' q B' n (exD X.K pk enc))
    (hres : ∀ its l, okL its → l.length = its.length → (∀ x ∈ l, pk x) → pr l) (hm : n0 + L * n ≤ m)
    (hs : ∀ x, foldedSetIterable iter X.env x = pure x := by intro _; rfl) : BV X (.ListComp elt [⟨tg, iter, [], 0⟩] scope pos) σ q B m (exD X.K pr fun l => .list (l.map enc)) :=
  bv_lc (n := n) (tp := fun _ c => c = true) (pm := fun _ => pk) (fun _ i l => l.length = i ∧ ∀ x ∈ l, pk x) hc hN ok src hz hL (fun _ _ => ⟨rfl, fun _ h => by cases h⟩) (fun _ _ _ _ _ h => by cases h) (fun its i it l x _ _ hx ⟨h1, h2⟩ => ⟨by rw [List.length_append, h1]; rfl, fun y hy => by
    rcases List.mem_append.mp hy with hy | hy
    · exact h2 y hy
    · rw [List.mem_singleton.mp hy]
      exact hx⟩) (fun its ol it hit B' s u v hv => by
    obtain ⟨σ', h1, h2, h3⟩ := turn its ol it hit B' s u v hv
    exact ⟨σ', 0, n, by omega, h1, h2, fun _ => bts_nil, h3⟩) (fun its l ol ⟨h1, h2⟩ => hres its l ol h1 h2) hm hs
/-- [x for x in .. if a draw] -/
theorem bv_lcF {okL : List ι → Prop} {pr : List ι → Prop} {g : ι → PyData} {c : Expr} (hc : X.calm = true) (hN : X.N.Nodup) (ok : BlkOk X.N X.env.scope scope own) (src : SNB X tg iter σ q B n0 okL S) (hz : ∀ its, okL its → its.length ≤ L) (hL : L ≤ 100000)
    (turn : ∀ its, okL its → ∀ it ∈ its, ∀ B', Same B B' → B' q = none → ∀ v, (S it).p v B' → ∃ σ', wipe σ' (own.map (·.2)) = wipe σ (own.map (·.2)) ∧ (∀ z H', Same B' H' → TJ (bx X scope z) tg (wipe σ (own.map (·.2))) v H' σ') ∧ (∀ z, BT (bx X scope z) c σ' q B' n fun _ => True) ∧ ∀ z, EV (bx X scope z) elt σ' B' (dt X.K (g it)))
    (hres : ∀ its l, okL its → l.Sublist its → pr l) (hm : n0 + L * n ≤ m)
    (hs : ∀ x, foldedSetIterable iter X.env x = pure x := by intro _; rfl) : BV X (.ListComp elt [⟨tg, iter, [c], 0⟩] scope pos) σ q B m (exD X.K pr fun l => .list (l.map g)) :=
  bv_lc (n := n) (tp := fun _ _ => True) (pm := fun it x => x = it) (fun its i l => l.Sublist (its.take i)) hc hN ok src hz hL (fun _ _ => List.nil_sublist _) (fun _ _ _ _ hi _ h => (sub_take hi h).1) (fun its i it l x hi _ hx h => by
    rw [hx]
    exact (sub_take hi h).2) (fun its ol it hit B' s u v hv => by
    obtain ⟨σ', h1, h2, h3, h4⟩ := turn its ol it hit B' s u v hv
    exact ⟨σ', n, 0, by omega, h1, h2, fun z => bts_one (h3 z), fun z => (EV.imp (R := exD X.K (fun x => x = it) g) (h4 z) fun v B1 _ p => ⟨it, rfl, p⟩).bv⟩) (fun its l ol h => hres its l ol (by rwa [List.take_length] at h)) hm hs
end
end K7
/-! The box layer, third part: statements, the box itself, _law_take. -/
namespace K7
set_option pp.maxSteps 300
open PySem PySem.Spec PyProof.Rows L2
section
variable {X : Cx} {e e1 e2 c tg iter : Expr} {es : List Expr} {body orelse rest : List Stmt} {D : Ends} {σ : L2.St} {q : Addr} {B H B0 H0 : Hp} {P P1 P2 P3 : Mp} {pos p1 p2 p3 : Pos} {x y z : Str} {i j n k : Nat}
theorem sb_set (i : Nat) (hnd : X.N.Nodup) (St : BSt q B H (n + k)) (he : BV X e σ q B n P) (kk : ∀ v B1 H1, NxB q B H B1 H1 → BSt q B1 H1 k → P.p v B1 → D.nx (σ.set i (some v)) H1) (hN : X.N[i]? = some x := by rfl) (hx : Loc X.env.scope x := by first | exact .inl rfl | exact .inr rfl)
    (hs : swapsWith e (some (.Name x p1)) pos.line X.env = pure false := by rfl) (hf : X.fn x = true ∨ X.env.scope.names.lookup x = some .local := by first | exact .inl rfl | exact .inr rfl) : wS X (.Assign [.Name x p1] e pos) D σ H :=
  s_of (ps_set hnd hN hx pe_w hs hf) (he H k St _ kk)
/-- a, b = e1, e2 (local names) -/
theorem sb_par (i j : Nat) {kt k2 : Nat} {pt pt2 : Pos} (hc : X.calm = true) (hnd : X.N.Nodup) (hij : i ≠ j) (St : BSt q B H (n + k)) (ha : BA X [e1, e2] σ q B n [P1, P2]) (kk : ∀ v w B1 H1, NxB q B H B1 H1 → BSt q B1 H1 k → P1.p v B1 → P2.p w B1 → D.nx ((σ.set i (some v)).set j (some w)) H1)
    (hN : X.N[i]? = some x := by rfl) (hM : X.N[j]? = some y := by rfl) (hx : X.env.scope.names.lookup x = some .local := by rfl) (hy : X.env.scope.names.lookup y = some .local := by rfl)
    (hw : swappedStores [.Tuple [.Name x p1, .Name y p2] kt pt] (.Tuple [e1, e2] k2 pt2) X.env = pure (some [x, y]) := by rfl)
    (hs : swapsWithSole [.Tuple [.Name x p1, .Name y p2] kt pt] (.Tuple [e1, e2] k2 pt2) pos.line X.env = pure false := by rfl) :
    wS X (.Assign [.Tuple [.Name x p1, .Name y p2] kt pt] (.Tuple [e1, e2] k2 pt2) pos) D σ H :=
  s_of (ps_par hc hnd hN hM hij hx hy pa_w hw hs) (ha H k St _ fun vs B1 H1 x1 S1 pv => by
    obtain ⟨v, w, rfl, h1, h2⟩ := allM2 pv
    exact ⟨v, w, rfl, kk v w B1 H1 x1 S1 h1 h2⟩)
theorem sb_ret (St : BSt q B H (n + k)) (he : BV X e σ q B n P) (kk : ∀ v B1 H1, NxB q B H B1 H1 → BSt q B1 H1 k → P.p v B1 → D.rt v H1) : wS X (.Return (some e) pos) D σ H := s_of (ps_ret pe_w) (he H k St _ kk)
theorem sb_retD {R : Mp} (x0 : NxB q B0 H0 B H) (St : BSt q B H (n + k)) (he : BV X e σ q B n R) (hD : ∀ v H', (∃ B', NxB q B0 H0 B' H' ∧ BSt q B' H' k ∧ R.p v B') → D.rt v H' := by exact fun _ _ h => h) : wS X (.Return (some e) pos) D σ H := sb_ret St he fun v B1 H1 x1 S1 p => hD v H1 ⟨B1, x0.trans x1, S1, p⟩
theorem sb_if {p : Bool → Prop} (St : BSt q B H (n + k)) (hc : BT X c σ q B n p) (h1 : p true → ∀ B1 H1, NxB q B H B1 H1 → BSt q B1 H1 k → wB X body D σ H1) (h2 : p false → ∀ B1 H1, NxB q B H B1 H1 → BSt q B1 H1 k → wB X orelse D σ H1) : wS X (.If c body orelse pos) D σ H :=
  s_of (ps_if pt_w pb_w pb_w) (hc H k St _ fun b B1 H1 x1 S1 pb => by
    cases b with
    | true => exact iteT (h1 pb B1 H1 x1 S1)
    | false => exact iteF (h2 pb B1 H1 x1 S1))
/-- for tg in a row that was drawn -/
theorem sb_for {ι : Type} {ok : List ι → Prop} {S : ι → Mp} (hp : PassesOwn (model X.prog X.w) X.A X.env X.xe) (hc : X.calm = true) (src : SNB X tg iter σ q B n ok S) (St : BSt q B H (n + k)) (Pv : List ι → Nat → L2.St → Hp → Hp → Prop) (h0 : ∀ its B1 H1, ok its → NxB q B H B1 H1 → BSt q B1 H1 k → Pv its 0 σ B1 H1)
    (turn : ∀ its i it σ' B' H' B2 H2 v, ok its → its[i]? = some it → Pv its i σ' B' H' → Nx B' H' B2 H2 → (S it).p v B2 → ∃ σ2, TJ X tg σ' v H2 σ2 ∧
      wB X body { D with nx := fun σ3 H3 => ∃ B3, Same B2 B3 ∧ Same B3 H3 ∧ Pv its (i + 1) σ3 B3 H3, ct := fun σ3 H3 => ∃ B3, Same B2 B3 ∧ Same B3 H3 ∧ Pv its (i + 1) σ3 B3 H3, bk := D.nx } σ2 H2)
    (done : ∀ its σ' B' H', ok its → Same B B' → Same B' H' → Pv its its.length σ' B' H' → D.nx σ' H') (hs : ∀ x, foldedSetIterable iter X.env x = pure x := by intro _; rfl) : wS X (.For tg iter body [] pos) D σ H :=
  s_of (ps_for hp hc pi_w pg_w pb_w hs) (src H k St _ fun its J B1 H1 ol x1 S1 w => for_it w (fun i σ' H' => ∃ B', Same B1 B' ∧ Same B' H' ∧ Pv its i σ' B' H') ⟨B1, Same.refl _, x1.s, h0 its B1 H1 ol x1 S1⟩ (fun i σ' H' _ ⟨B', s1, s2, _⟩ => s1.trans s2)
    (fun i v σ' H' H2 hi ⟨B', s1, s2, p⟩ ⟨sy, it, B2, hit, xy, hS⟩ => by
      obtain ⟨B3, x3, s3⟩ := xy.more s1 s2
      obtain ⟨σ2, hT, hb⟩ := turn its i it σ' B' H' B3 H2 v ol hit p x3 ((S it).mono s3 hS)
      exact hT _ (b_imp hb (fun _ _ ⟨B4, a, b, c⟩ => ⟨B4, s1.trans (x3.b.trans a), b, c⟩) (fun _ _ z => z) (fun _ _ z => z) fun _ _ ⟨B4, a, b, c⟩ => ⟨B4, s1.trans (x3.b.trans a), b, c⟩))
    fun σ' H' ⟨B', s1, s2, p⟩ => done its σ' B' H' ol (x1.b.trans s1) s2 p)
end
/-! ### the box itself -/
section
variable {X : Cx} {e c : Expr} {σ : L2.St} {q : Addr} {B B2 H H2 : Hp} {D : Ends} {pos p1 p2 p3 : Pos} {xs : List V} {x : Str} {i j kk : Nat}
theorem nx_off {o : HO} (bq : B q = none) (hx : H q = some o) (x2 : Nx (upd B q o) H B2 H2) : Nx B H (offH B2 q) H2 := by
  refine ⟨x2.h, fun a o h => ?_, offH_same x2.s, fun a h => ?_, fun a ps h => ?_⟩
  · by_cases e : a = q
    · subst e
      rw [bq] at h
      cases h
    · rw [offH_ne e]
      exact x2.b a o (by rw [upd_ne e]; exact h)
  · by_cases e : a = q
    · subst e
      rw [offH_at, bq]
    · rw [offH_ne e, x2.o a h, upd_ne e]
  · by_cases e : a = q
    · subst e
      rw [offH_at]
      exact fun z => by cases z
    · rw [offH_ne e]
      exact x2.n a ps h
theorem same_put {o : HO} (sb : Same B H) (hx : H q = some o) : Same (upd B q o) H := fun a u h => by
  by_cases e : a = q
  · subst e
    rw [upd_same] at h
    rw [hx]
    exact h
  · rw [upd_ne e] at h
    exact sb a u h
theorem peekB {v : Int} {Q : VK} (sb : Same B H) (hx : H q = some (.lst xs)) (bq : B q = none) (he : EV X e σ (upd B q (.lst xs)) (dt X.K (.int v))) (k : ∀ B1 H1, Nx B H B1 H1 → Q (.int v) H1) : wE X e σ H Q :=
  he H (same_put sb hx) Q fun u B2 H2 x2 p => by
    rw [dp_i p]
    exact k _ H2 (nx_off bq hx x2)
theorem peekT {v : Bool} {Q : Bool → Hp → Prop} (sb : Same B H) (hx : H q = some (.lst xs)) (bq : B q = none) (he : ET X e σ (upd B q (.lst xs)) v) (k : ∀ B1 H1, Nx B H B1 H1 → Q v H1) : wT X e σ H Q :=
  he H (same_put sb hx) Q fun B2 H2 x2 => k _ H2 (nx_off bq hx x2)
/-- box[j] -/
theorem ev_boxAt {v : Int} (i : Nat) (hs : σ[i]? = some (some (.ref q))) (hx : B q = some (.lst xs)) (hj : xs[j]? = some (.int v)) (hN : X.N[i]? = some x := by rfl) (hv : Vis X.env.scope x := by first | exact Or.inl rfl | exact Or.inr (Or.inl rfl) | exact Or.inr (Or.inr rfl))
    (hd : (x == ("__debug__" : Str)) = false := by decide) (hcd : (x == ("__classdict__" : Str)) = false := by decide) : EV X (.Subscript (.Name x p1) (.Constant (.int j) kk p2) pos) σ B (dt X.K (.int v)) :=
  ev_ix ix_list (fun _ _ => rfl) (ev_var (P := eqM (.ref q)) i hs rfl hN hv hd hcd) (ev_int (i := (j : Int))) fun u w B1 s pu pw => by
    cases pu
    exact rv_now (.int _) fun H s2 Q g => ⟨q, xs, (j : Int), _, rfl, dp_i pw, .inl (.inl (s2 _ _ (s _ _ hx))), atI_nat hj, g⟩
/-- box[j] = e -/
theorem s_box {v : Int} (i : Nat) (hs : σ[i]? = some (some (.ref q))) (sb : Same B H) (hx : H q = some (.lst xs)) (bq : B q = none) (he : EV X e σ (upd B q (.lst xs)) (dt X.K (.int v))) (hj : j < xs.length) (k : ∀ B1 H1, Nx B H B1 H1 → D.nx σ (upd H1 q (.lst (xs.set j (.int v)))))
    (hN : X.N[i]? = some x := by rfl) (hv : Vis X.env.scope x := by first | exact Or.inl rfl | exact Or.inr (Or.inl rfl) | exact Or.inr (Or.inr rfl))
    (hd : (x == ("__debug__" : Str)) = false := by decide) (hcd : (x == ("__classdict__" : Str)) = false := by decide)
    (q1 : swapsWithSole [.Subscript (.Name x p1) (.Constant (.int j) kk p2) p3] e pos.line X.env = pure false := by rfl) (q2 : swappedStores [.Subscript (.Name x p1) (.Constant (.int j) kk p2) p3] e X.env = pure none := by rfl)
    (q3 : (assignEach [.Subscript (.Name x p1) (.Constant (.int j) kk p2) p3] X.env).map (·.2) = [assign (.Subscript (.Name x p1) (.Constant (.int j) kk p2) p3) X.env] := by rfl) : wS X (.Assign [.Subscript (.Name x p1) (.Constant (.int j) kk p2) p3] e pos) D σ H :=
  s_of (ps_asg pe_w (pg_sub (pe_var (i := i) hN hv hd hcd) (pe_int (i := (j : Int))) set_list) q1 q2 q3) (peekB sb hx bq he fun B1 H1 x1 => ⟨_, hs, q, xs, (j : Int), j, rfl, rfl, x1.h _ _ hx, by
    unfold ixN
    rw [if_pos (by omega), if_pos (by omega)]
    rfl, k B1 H1 x1⟩)
theorem s_ifBox {v : Bool} {body orelse : List Stmt} (sb : Same B H) (hx : H q = some (.lst xs)) (bq : B q = none) (he : ET X c σ (upd B q (.lst xs)) v) (h1 : v = true → ∀ B1 H1, Nx B H B1 H1 → wB X body D σ H1) (h2 : v = false → ∀ B1 H1, Nx B H B1 H1 → wB X orelse D σ H1) : wS X (.If c body orelse pos) D σ H :=
  s_of (ps_if pt_w pb_w pb_w) (peekT sb hx bq he fun B1 H1 x1 => by
    cases v with
    | true => exact iteT (h1 rfl B1 H1 x1)
    | false => exact iteF (h2 rfl B1 H1 x1))
theorem s_setBox {v : Int} {y : Str} (i : Nat) (hnd : X.N.Nodup) (sb : Same B H) (hx : H q = some (.lst xs)) (bq : B q = none) (he : EV X e σ (upd B q (.lst xs)) (dt X.K (.int v))) (k : ∀ B1 H1, Nx B H B1 H1 → D.nx (σ.set i (some (.int v))) H1) (hN : X.N[i]? = some y := by rfl) (hl : Loc X.env.scope y := by first | exact .inl rfl | exact .inr rfl)
    (hs : swapsWith e (some (.Name y p1)) pos.line X.env = pure false := by rfl) (hf : X.fn y = true ∨ X.env.scope.names.lookup y = some .local := by first | exact .inl rfl | exact .inr rfl) : wS X (.Assign [.Name y p1] e pos) D σ H :=
  s_of (ps_set hnd hN hl pe_w hs hf) (peekB sb hx bq he fun B1 H1 x1 => k B1 H1 x1)
theorem nxb_box {o o' : HO} (sb : Same B H) (bq : B q = none) (hx : H q = some o) : NxB q B H B (upd H q o') :=
  ⟨fun a u n e => by rw [upd_ne n]; exact e, fun _ => (by rw [upd_same]; exact fun z => by cases z), Same.refl _, same_over sb bq, fun _ _ => rfl, fun a ps h e => by rw [sb _ _ e] at h; cases h⟩
theorem ev_int1 {v : Int} {p : Pos} (hm : X.mg "int" = none) (ha : EV X e σ B (dt X.K (.int v))) (hg : Gl X "int" := by rfl) (he : starEach [e] X.env = (false, eval e X.env) :: starEach [] X.env := by rfl) : EV X (.Call (.Name "int" p) [e] [] pos) σ B (dt X.K (.int v)) :=
  ev_bty call_int1 hm (by decide +kernel) (ea_cons ha ea_nil he) (fun vs B1 _ h => by
    obtain ⟨u, rfl, g⟩ := allM1 h
    rw [dp_i g]
    exact rc_now (.int _) fun H s Q g => .inl ⟨v, rfl, g⟩) hg (by decide) (by decide) he rfl
end
end K7
/-! _law_take: a draw. -/
namespace K7
set_option pp.maxSteps 300
open PySem PySem.Spec PyProof.Rows L2
abbrev sTake : List Str := ["_law_box_here", "_law_below_so", "_law_drawn", "_law_once", "_law_far_so", "_law_twice_so"]
theorem scTake : FnScope sTake ["_law_box_here", "_law_below_so"] (defScope (topS 44)) := ⟨rfl, rfl, rfl, by decide +kernel, rfl, by decide +kernel, by decide +kernel⟩
abbrev spTake (K : PySem.W.Frag) : Sp := spB (fun m : Nat => [dt K (eN m)]) (fun m => 1 ≤ m ∧ m ≤ 1000000) (fun _ => 1) fun m => exD K (fun i => i < m) eN
section
variable {P : Program} {w : World} {K : PySem.W.Frag} {mg : Str → Option Value} {base : Heap}
theorem drawn_lt {K : PySem.W.Frag} {v : V} {B : Hp} {i : Int} {m : Nat} (h : Dp K B v (.int i)) (h0 : 0 ≤ i) (h1 : i < m) : (exD K (fun j => j < m) eN).p v B := ⟨i.toNat, by omega, by
  show Dp K B v (.int (i.toNat : Int))
  rwa [Int.toNat_of_nonneg h0]⟩
set_option maxHeartbeats 4000000 in
theorem ok_take (L : Bl mg) (D : Gd K mg "_law_take" (topS 44) []) : Gf P w K mg base 1 "_law_take" (spTake K) :=
  D.box (k := 0) scTake (fun _ => rfl) (fun _ _ _ _ _ _ us hl => match us, hl with | [_, _], _ => rfl) fun z vs q B j m hm ha S hr => by
    obtain ⟨vm, rfl, h1⟩ := allM1 ha
    have e1 := dp_i h1
    subst e1
    obtain ⟨sb, u, x, y, zz, hx, hy, hz⟩ := S
    have hm0 : (0 : Int) < (m : Int) := by omega
    refine b_cons (s_ifBox sb hx u (et_gt (ev_boxAt 0 rfl upd_same rfl) ev_int) (fun hv B1 H1 x1 => ?_) fun hv B1 H1 x1 => ?_)
    · have u1 := (x1.o q (by rw [hx]; exact fun z => by cases z)).trans u
      refine b_cons (s_setBox 2 scTake.nd x1.s (x1.h _ _ hx) u1 (ev_mod (ev_int1 L.int (ev_boxAt 0 rfl upd_same rfl)) (ev_var (P := dt K (eN m)) 1 rfl (.int _)) hm0) fun B2 H2 x2 => ?_)
      have hx2 := x2.h _ _ (x1.h _ _ hx)
      have u2 := (x2.o q (by rw [x1.h _ _ hx]; exact fun z => by cases z)).trans u1
      refine b_cons (s_box 0 rfl x2.s hx2 u2 (ev_fdiv (ev_boxAt 0 rfl upd_same rfl) (ev_var (P := dt K (eN m)) 1 rfl (.int _)) ⟨hm0, by omega⟩) (by simp) fun B3 H3 x3 => ?_)
      have hx3 := x3.h _ _ hx2
      have u3 := (x3.o q (by rw [hx2]; exact fun z => by cases z)).trans u2
      have y3 : NxB q B3 H3 B3 (upd H3 q (.lst [.int ((x : Int) / m), .int (y : Int), .int (zz : Int)])) := nxb_box x3.s u3 hx3
      refine b_cons (sb_retD (n := 0) (k := j) ((((x1.trans x2).trans x3).bx).trans y3) ⟨y3.s, u3, x / m, y, zz, by rw [upd_same]; rfl, hy, by omega⟩ (ev_var 2 rfl (drawn_lt (.int _) (Int.emod_nonneg _ (by omega)) (Int.emod_lt_of_pos _ hm0))).bv)
    · have u1 := (x1.o q (by rw [hx]; exact fun z => by cases z)).trans u
      refine b_nil ?_
      refine b_cons (s_box 0 rfl x1.s (x1.h _ _ hx) u1 (ev_add (ev_boxAt 0 rfl upd_same rfl) ev_int) (by simp) fun B2 H2 x2 => ?_)
      have hx2 := x2.h _ _ (x1.h _ _ hx)
      have u2 := (x2.o q (by rw [x1.h _ _ hx]; exact fun z => by cases z)).trans u1
      have y2 : NxB q B2 H2 B2 (upd H2 q (.lst [.int (x : Int), .int (y : Int), .int ((zz : Int) + 1)])) := nxb_box x2.s u2 hx2
      have hw : (upd H2 q (.lst [.int (x : Int), .int (y : Int), .int ((zz : Int) + 1)])) q = some (.lst [.int (x : Int), .int (y : Int), .int ((zz : Int) + 1)]) := upd_same
      refine b_cons (s_setBox 3 scTake.nd y2.s hw u2 (ev_mod (ev_int1 L.int (ev_mul (ev_add (ev_boxAt 0 rfl upd_same rfl) (ev_mul ev_int (ev_boxAt 0 rfl upd_same rfl) (.inl ⟨by decide, by decide⟩))) (ev_add ev_int (ev_boxAt 0 rfl upd_same rfl)) (.inr ⟨by omega, by omega⟩))) ev_int (by decide)) fun B3 H3 x3 => ?_)
      have hw3 := x3.h _ _ hw
      have u3 := (x3.o q (fun h => (by have h2 := hw.symm.trans h; cases h2))).trans u2
      refine b_cons (s_setBox 4 scTake.nd x3.s hw3 u3 (ev_add (ev_mod (ev_int1 L.int (ev_var (P := dt K (.int _)) 3 rfl (.int _))) ev_int (by decide)) ev_int) fun B4 H4 x4 => ?_)
      have hw4 := x4.h _ _ hw3
      have u4 := (x4.o q (by rw [hw3]; exact fun z => by cases z)).trans u3
      refine b_cons (s_setBox 5 scTake.nd x4.s hw4 u4 (ev_mod (ev_int1 L.int (ev_mul (ev_add (ev_add (ev_var (P := dt K (.int _)) 3 rfl (.int _)) (ev_boxAt 0 rfl upd_same rfl)) (ev_fdiv (ev_boxAt 0 rfl upd_same rfl) ev_int ⟨by decide, by decide⟩)) (ev_var (P := dt K (.int _)) 4 rfl (.int _)) (.inr ⟨by omega, by omega⟩))) ev_int (by decide)) fun B5 H5 x5 => ?_)
      have hw5 := x5.h _ _ hw4
      have u5 := (x5.o q (by rw [hw4]; exact fun z => by cases z)).trans u4
      refine b_cons (sb_retD (n := 0) (k := j) (((x1.trans x2).bx.trans y2).trans ((x3.trans x4).trans x5).bx) ⟨x5.s, u5, x, y, zz + 1, hw5, hy, by omega⟩ ((EV.imp (ev_mod (ev_int1 L.int (ev_fdiv (ev_mod (ev_int1 L.int (ev_add (ev_mul (ev_var (P := dt K (.int _)) 5 rfl (.int _)) ev_int (.inr ⟨by decide, by decide⟩)) (ev_var (P := dt K (.int _)) 3 rfl (.int _)))) ev_int (by decide)) ev_int ⟨by decide, by decide⟩)) (ev_var (P := dt K (eN m)) 1 rfl (.int _)) hm0) fun v B1 _ p => drawn_lt p (Int.emod_nonneg _ (by omega)) (Int.emod_lt_of_pos _ hm0))).bv)
end
end K7
/-! Lists of things, fresh lists, _law_of. -/
namespace K7
set_option pp.maxSteps 300
open PySem PySem.Spec PyProof.Rows L2
/-- a list of things -/
def lsM (K : PySem.W.Frag) (Ps : List Mp) : Mp := ⟨fun v B => ∃ a xs, v = .ref a ∧ SqL K B a xs ∧ AllM Ps xs B, fun s ⟨a, xs, e, h, g⟩ => ⟨a, xs, e, same_l s h, AllM.mono s g⟩⟩
def oneOf (Ps : List Mp) : Mp := ⟨fun v B => ∃ P ∈ Ps, P.p v B, fun s ⟨P, h, g⟩ => ⟨P, h, P.mono s g⟩⟩
theorem ls_dt {K : PySem.W.Frag} {ds : List PyData} {v : V} {B : Hp} (h : Dp K B v (.list ds)) : (lsM K (ds.map (dt K))).p v B := by
  obtain ⟨a, xs, rfl, hl, hd⟩ := dp_l h
  exact ⟨a, xs, rfl, hl, allM_dt.mpr hd⟩
theorem allM_at {B : Hp} : ∀ {Ps : List Mp} {xs : List V} {i : Nat}, AllM Ps xs B → i < Ps.length → ∃ v P, xs[i]? = some v ∧ P ∈ Ps ∧ P.p v B
  | P :: Ps, x :: xs, 0, h, _ => ⟨x, P, rfl, List.mem_cons_self, h.1⟩
  | P :: Ps, x :: xs, i + 1, h, hi => by
    obtain ⟨v, P', h1, h2, h3⟩ := allM_at (i := i) h.2 (by simpa using hi)
    exact ⟨v, P', by simpa using h1, List.mem_cons_of_mem _ h2, h3⟩
  | [], _, _, _, hi => absurd hi (Nat.not_lt_zero _)
  | _ :: _, [], _, h, _ => h.elim
/-- a list that may be put together with others -/
def nlM (K : PySem.W.Frag) (ds : List PyData) : Mp := ⟨fun v B => ∃ a xs, v = .ref a ∧ B a = some (.lst xs) ∧ DpAll K B xs ds, fun s ⟨a, xs, e, h, g⟩ => ⟨a, xs, e, s _ _ h, dpa_same s g⟩⟩
theorem nl_dt {K : PySem.W.Frag} {ds : List PyData} {v : V} {B : Hp} (h : (nlM K ds).p v B) : Dp K B v (.list ds) := by
  obtain ⟨a, xs, rfl, hl, hd⟩ := h
  exact .lst (.inl (.inl hl)) hd
section
variable {X : Cx} {a b e : Expr} {es : List Expr} {σ : L2.St} {q : Addr} {B : Hp} {p pos : Pos} {ds d2 : List PyData} {Ps : List Mp} {n : Nat}
theorem EV.nl (h : EV X e σ B (nlM X.K ds)) : EV X e σ B (dt X.K (.list ds)) := h.imp fun _ _ _ g => nl_dt g
theorem EV.ls (h : EV X e σ B (dt X.K (.list ds))) : EV X e σ B (lsM X.K (ds.map (dt X.K))) := h.imp fun _ _ _ g => ls_dt g
theorem ev_lenLs (hm : X.mg "len" = none) (ha : EV X a σ B (lsM X.K Ps)) (hg : Gl X "len" := by rfl) (he : starEach [a] X.env = (false, eval a X.env) :: starEach [] X.env := by rfl) : EV X (.Call (.Name "len" p) [a] [] pos) σ B (dt X.K (eN Ps.length)) :=
  ev_blt call_len_seq hm boot_len (ea_cons ha ea_nil he) (fun vs B1 _ h => by
    obtain ⟨v, rfl, l, xs, rfl, hl, hd⟩ := allM1 h
    exact rc_now (.int _) fun H s Q q => ⟨l, xs, rfl, .inl (same_l s hl), by rw [allM_len hd]; exact q⟩) hg (by decide) (by decide) he rfl
theorem ev_lstN (h : EA X es σ B (ds.map (dt X.K))) (hl : ds.length ≤ 100000 := by decide) : EV X (.List es pos) σ B (nlM X.K ds) :=
  ev_of (pe_lst pa_w) fun H s Q q => h H s _ fun vs B1 H1 x1 pv => by
    have hd := allM_dt.mp pv
    refine ⟨Nat.le_trans (Nat.le_of_eq (dpa_len hd)) (Nat.le_trans hl (by decide)), fun p hp => ?_⟩
    have x2 := (Nx.refl x1.s).put (o := .lst vs) hp
    exact q _ _ _ (x1.trans x2) ⟨p, vs, rfl, upd_same, dpa_same x2.b hd⟩
/-- a displayed list of things -/
theorem ba_ls (h : BA X es σ q B n Ps) (hl : Ps.length ≤ 100000 := by decide) : BV X (.List es pos) σ q B n (lsM X.K Ps) :=
  bv_of (pe_lst pa_w) fun H k S Q g => h H k S _ fun vs B1 H1 x1 S1 pv => by
    refine ⟨Nat.le_trans (Nat.le_of_eq (allM_len pv)) (Nat.le_trans hl (by decide)), fun p hp => ?_⟩
    have x2 := (Nx.refl x1.s).put (o := .lst vs) hp
    exact g _ _ _ (x1.trans x2.bx) (S1.nx x2) ⟨p, vs, rfl, .inl (.inl upd_same), AllM.mono x2.b pv⟩
theorem ev_slN {lo hi : Option Expr} {i j : Option Nat} {p2 : Pos} (ha : EV X a σ B (dt X.K (.list ds))) (hl : EO X lo σ B i) (hh : EO X hi σ B j) : EV X (.Subscript a (.Slice lo hi none p2) pos) σ B (nlM X.K (cutD ds i j)) :=
  ev_of (pe_slice sl_list pe_w po_w po_w) fun H s Q q => ha H s _ fun u B1 H1 x1 pu => (hl.mono x1.b).run H1 x1.s _ fun B2 H2 x2 => (hh.mono (x1.b.trans x2.b)).run H2 x2.s _ fun B3 H3 x3 => by
    obtain ⟨l, xs, rfl, hq, hd⟩ := dp_l pu
    refine ⟨l, xs, rfl, same_l x3.s (same_l x3.b (same_l x2.b hq)), fun p hp => ?_⟩
    rw [cutV_eq]
    have x4 := (Nx.refl x3.s).put (o := .lst (cutD xs i j)) hp
    exact q _ _ _ (x1.trans (x2.trans (x3.trans x4))) ⟨p, _, rfl, upd_same, dpa_same x4.b (dpa_drop _ (by rw [dpa_len hd]; exact dpa_take _ (dpa_same (x2.b.trans x3.b) hd)))⟩
theorem ev_cat (ha : EV X a σ B (nlM X.K ds)) (hb : EV X b σ B (nlM X.K d2)) (hz : ds.length + d2.length ≤ 100000) : EV X (.BinOp a .Add b pos) σ B (nlM X.K (ds ++ d2)) :=
  ev_bin op_cat ha hb fun x y B1 _ ⟨l, xs, e1, h1, g1⟩ ⟨m, ys, e2, h2, g2⟩ => by
    subst e1 e2
    exact fun H s Q q => ⟨l, m, xs, ys, rfl, rfl, s _ _ h1, s _ _ h2, by
      rw [dpa_len g1, dpa_len g2]
      exact Nat.le_trans hz (by decide), fun p hp => by
      have x2 := (Nx.refl s).put (o := .lst (xs ++ ys)) hp
      exact q _ _ _ x2 ⟨p, _, rfl, upd_same, dpa_app (dpa_same x2.b g1) (dpa_same x2.b g2)⟩⟩
theorem dpa_rep {K : PySem.W.Frag} {H : Hp} {vs : List V} {ds : List PyData} (h : DpAll K H vs ds) : ∀ k : Nat, DpAll K H (List.replicate k vs).flatten (List.replicate k ds).flatten
  | 0 => .nil
  | k + 1 => by
    rw [List.replicate_succ, List.replicate_succ, List.flatten_cons, List.flatten_cons]
    exact dpa_app h (dpa_rep h k)
theorem ev_repL {k : Nat} (ha : EV X a σ B (nlM X.K ds)) (hb : EV X b σ B (dt X.K (eN k))) (hz : ds.length * k ≤ 100000) (hk : k ≤ 100000) : EV X (.BinOp a .Mult b pos) σ B (nlM X.K (List.replicate k ds).flatten) :=
  ev_bin op_rep ha hb fun x y B1 _ ⟨l, xs, e1, h1, g1⟩ py => by
    subst e1
    exact fun H s Q q => ⟨l, (k : Int), xs, rfl, dp_i py, s _ _ h1, by omega, by omega, by
      rw [dpa_len g1, Int.toNat_natCast]
      exact Nat.le_trans hz (by decide), fun p hp => by
      rw [Int.toNat_natCast]
      have x2 := (Nx.refl s).put (o := .lst (List.replicate k xs).flatten) hp
      exact q _ _ _ x2 ⟨p, _, rfl, upd_same, dpa_same x2.b (dpa_rep g1 k)⟩⟩
/-- list(a tuple), fresh -/
theorem ev_listN (hm : X.mg "list" = none) (ha : EV X a σ B (dt X.K (.tuple ds))) (hg : Gl X "list" := by rfl) (he : starEach [a] X.env = (false, eval a X.env) :: starEach [] X.env := by rfl) : EV X (.Call (.Name "list" p) [a] [] pos) σ B (nlM X.K ds) :=
  ev_bty call_list_of hm boot_list (ea_cons ha ea_nil he) (fun vs B1 _ h => by
    obtain ⟨v, rfl, g⟩ := allM1 h
    obtain ⟨l, xs, rfl, hl, hd⟩ := dp_t g
    exact fun H s Q q => ⟨l, xs, rfl, .inr (same_t s hl), fun p hp => by
      have x1 := (Nx.refl s).put (o := .lst xs) hp
      exact q _ _ _ x1 ⟨p, xs, rfl, upd_same, dpa_same x1.b hd⟩⟩) hg (by decide) (by decide) he rfl
/-- tuple + tuple -/
theorem ev_catT (ha : EV X a σ B (dt X.K (.tuple ds))) (hb : EV X b σ B (dt X.K (.tuple d2))) (hz : ds.length + d2.length ≤ 100000) : EV X (.BinOp a .Add b pos) σ B (dt X.K (.tuple (ds ++ d2))) :=
  ev_bin op_catA ha hb fun x y B1 _ px py => by
    obtain ⟨l, xs, rfl, h1, g1⟩ := dp_t px
    obtain ⟨m, ys, rfl, h2, g2⟩ := dp_t py
    exact fun H s Q q => ⟨l, m, xs, ys, rfl, rfl, same_t s h1, same_t s h2, by
      rw [dpa_len g1, dpa_len g2]
      exact Nat.le_trans hz (by decide), fun e => by
      subst e
      cases g1
      exact q _ B1 H (Nx.refl s) (.tup h2 g2), fun _ e => by
      subst e
      cases g2
      rw [List.append_nil] at q
      exact q _ B1 H (Nx.refl s) (.tup h1 g1), fun _ _ p hp => by
      have x2 := (Nx.refl s).put (o := .tup (xs ++ ys)) hp
      exact q _ _ _ x2 (.tup (.inl (.inl upd_same)) (dpa_app (dpa_same x2.b g1) (dpa_same x2.b g2)))⟩
end
/-! ### _law_of -/
abbrev spOf (K : PySem.W.Frag) : Sp := spB (fun Ps : List Mp => [lsM K Ps]) (fun Ps => 1 ≤ Ps.length ∧ Ps.length ≤ 1000) (fun _ => 1) oneOf
abbrev sOf : List Str := ["_law_box_here", "_law_some"]
theorem scOf : FnScope sOf ["_law_box_here", "_law_some"] (defScope (topS 46)) := ⟨rfl, rfl, rfl, by decide +kernel, rfl, by decide +kernel, by decide +kernel⟩
section
variable {P : Program} {w : World} {K : PySem.W.Frag} {mg : Str → Option Value} {base : Heap}
theorem ok_of (L : Bl mg) (G : Gf P w K mg base 1 "_law_take" (spTake K)) (D : Gd K mg "_law_of" (topS 46) []) : Gf P w K mg base 2 "_law_of" (spOf K) :=
  D.box (k := 1) scOf (fun _ => rfl) (fun _ _ _ _ _ _ us hl => match us, hl with | [_, _], _ => rfl) fun z vs q B j Ps hm ha S hr => by
    obtain ⟨vm, rfl, h1⟩ := allM1 ha
    refine b_cons (sb_retD (X := fx P w K mg base sOf "_law_of" (topS 46) z) (n := 1) (k := j) (NxB.refl S.s) S (bv_ix (n := 0) (m := 1) ix_list (fun _ _ => rfl) (ev_var 1 rfl h1).bv
      (bv_call (X := fx P w K mg base sOf "_law_of" (topS 46) z) (n := 0) Ps.length G hr (ev_var (P := eqM (.ref q)) 0 rfl rfl) (ba_cons (n := 0) (m := 0) (ev_lenLs L.len (ev_var 1 rfl h1)).bv ba_nil (by decide)) ⟨hm.1, by omega⟩ (by decide)) fun x y B1 s px py => ?_))
    obtain ⟨a, xs, rfl, hl, hall⟩ := px
    obtain ⟨i, hi, py⟩ := py
    obtain ⟨v, P', e1, e2, e3⟩ := allM_at hall hi
    exact rv_now ⟨P', e2, e3⟩ fun H s Q q => ⟨a, xs, (i : Int), v, rfl, dp_i py, same_l s hl, atI_nat e1, q⟩
end
end K7
/-! _law_mixed. -/
namespace K7
set_option pp.maxSteps 300
open PySem PySem.Spec PyProof.Rows L2
abbrev sMix : List Str := ["_law_box_here", "_law_rows_so", "_law_rest_so", "_law_found", "_law_turn", "_law_at_so"]
theorem scMix : FnScope sMix ["_law_box_here", "_law_rows_so"] (defScope (topS 48)) := ⟨rfl, rfl, rfl, by decide +kernel, rfl, by decide +kernel, by decide +kernel⟩
abbrev spMix (K : PySem.W.Frag) : Sp := spB (fun l : List Nat => [dt K (eLN l)]) (fun l => l.length ≤ 10) (fun l => l.length) fun l => exD K (fun r : List Nat => r.length = l.length ∧ ∀ x ∈ r, x ∈ l) eLN
section
variable {P : Program} {w : World} {K : PySem.W.Frag} {mg : Str → Option Value} {base : Heap}
theorem cut_out {l : List Nat} {a : Nat} (h : a < l.length) : (cutD l none (some a) ++ cutD l (some (a + 1)) none).length = l.length - 1 ∧ ∀ x ∈ cutD l none (some a) ++ cutD l (some (a + 1)) none, x ∈ l := by
  constructor
  · simp only [cutD, Option.getD, List.length_append, List.length_drop, List.length_take]
    omega
  · intro x hx
    rcases List.mem_append.mp hx with hx | hx
    · exact List.mem_of_mem_take (List.mem_of_mem_drop hx)
    · exact List.mem_of_mem_take (List.mem_of_mem_drop hx)
set_option maxHeartbeats 4000000 in
theorem ok_mix (L : Bl mg) (G : Gf P w K mg base 1 "_law_take" (spTake K)) (D : Gd K mg "_law_mixed" (topS 48) []) : Gf P w K mg base 2 "_law_mixed" (spMix K) :=
  D.box (k := 1) scMix (fun _ => rfl) (fun _ _ _ _ _ _ us hl => match us, hl with | [_, _], _ => rfl) fun z vs q B j rows hm ha S hr => by
    obtain ⟨va, rfl, h1⟩ := allM1 ha
    refine b_cons (s_parNew 2 3 rfl scMix.nd (by decide) S.s (ev_listL L.list (ev_var 1 rfl h1)) fun v0 p B1 H1 x1 pv0 hp => ?_)
    have hpq : p ≠ q := fun e => (S.nx x1).x.som (e ▸ hp)
    have b1p : B1 p = none := same_no x1.s hp
    have hp0 : z.H p = none := same_no x1.h hp
    have S1 : BSt q B1 (upd H1 p (.lst [])) (rows.length + j) := (S.nx x1).hid hpq b1p
    refine b_cons (s_for (X := fx P w K mg base sMix "_law_mixed" (topS 48) z) PassesOwn.never rfl (sn_range L.range (EV.is (d' := eN rows.length) (ev_lenL L.len (ev_var 1 rfl (dp_same x1.b h1))) (by rw [List.length_map])) (by omega)) S1.s
      (fun i σ' B' H' => ∃ o4 o5 vr ds acc l, σ' = [some (.ref q), some va, some vr, some (.ref p), o4, o5] ∧ Dp K B' vr (eLN ds) ∧ ds.length + i = rows.length ∧ (∀ x ∈ ds, x ∈ rows) ∧ H' p = some (.lst acc) ∧ DpAll K B' acc (l.map eN) ∧ l.length = i ∧ (∀ x ∈ l, x ∈ rows) ∧ NxB q B z.H B' H' ∧ BSt q B' H' (ds.length + j) ∧ B' p = none)
      (fun B2 H2 x2 => ⟨none, none, v0, rows, [], [], rfl, dp_same x2.b pv0, rfl, fun _ h => h, x2.h _ _ upd_same, .nil, rfl, fun _ h => (by cases h), (nxb_hid x1.bx hp0 b1p).trans x2.bx, S1.nx x2, x2.off upd_same b1p⟩)
      (fun i it σ' B' H' B2 H2 v hi ⟨o4, o5, vr, ds, acc, l, e, hd, hlen, hsub, hacc, hda, hll, hls, x', S', bp⟩ x2 hv => ?_) fun σ' B' H' s1 s2 ⟨o4, o5, vr, ds, acc, l, e, hd, hlen, hsub, hacc, hda, hll, hls, x', S', bp⟩ => ?_)
    · subst e
      have hi' : i < rows.length := by
        have := (List.getElem?_eq_some_iff.mp hi).1
        rwa [List.length_range] at this
      have hdpos : 1 ≤ ds.length := by omega
      refine ⟨_, tj_name 4 scMix.nd, ?_⟩
      have S2 : BSt q B2 H2 (1 + (ds.length - 1 + j)) := (S'.nx x2).le (by omega)
      have bp2 := x2.off hacc bp
      refine b_cons (sb_set 5 scMix.nd S2 (bv_call (X := fx P w K mg base sMix "_law_mixed" (topS 48) z) (n := 0) ds.length G hr (ev_var (P := eqM (.ref q)) 0 rfl rfl) (ba_cons (n := 0) (m := 0) (EV.is (d' := eN ds.length) (ev_lenL L.len (ev_var 2 rfl (dp_same x2.b hd))) (by rw [List.length_map])).bv ba_nil (by decide)) ⟨hdpos, by omega⟩ (by decide)) fun v3 B3 H3 x3 S3 ⟨a, ha', pa⟩ => ?_)
      have hacc3 := x3.h _ _ hpq (x2.h _ _ hacc)
      have bp3 := x3.off (by rw [x2.h _ _ hacc]; exact fun z => by cases z) bp2
      have hd3 := dp_same x3.b (dp_same x2.b hd)
      have hal : acc.length < 100000 := by
        have := dpa_len hda
        rw [List.length_map] at this
        omega
      refine b_cons (s_app 3 S3.s rfl hacc3 hal (ev_ixL (d := eN (ds[a]'ha')) (ev_var 2 rfl hd3) (ev_var 5 rfl pa) (by rw [List.getElem?_map, List.getElem?_eq_getElem ha']; rfl)) fun v4 B4 H4 x4 p4 => ?_)
      have bp4 := x4.off hacc3 bp3
      have S4 : BSt q B4 (upd H4 p (.lst (acc ++ [v4]))) (ds.length - 1 + j) := (S3.nx x4).hid hpq bp4
      have hd4 := dp_same x4.b hd3
      have pa4 := dp_same x4.b pa
      refine b_cons (s_set 2 scMix.nd S4.s (EV.nl (ev_cat (ev_slN (ev_var (P := dt K _) 2 rfl hd4) eo_no (eo_yes (ev_var 5 rfl pa4))) (ev_slN (ev_var (P := dt K _) 2 rfl hd4) (eo_yes (k := a + 1) (EV.is (ev_add (ev_var (P := dt K _) 5 rfl pa4) ev_int) (congrArg PyData.int (by omega)))) eo_no) ?_)) fun v5 B5 H5 x5 p5 => ?_)
      · simp only [cutD, Option.getD, List.length_drop, List.length_take, List.length_map]
        omega
      · have c := cut_out ha'
        have p5 : Dp K B5 v5 (eLN (cutD ds none (some a) ++ cutD ds (some (a + 1)) none)) := by
          have p5 : Dp K B5 v5 (.list (cutD (ds.map eN) none (some a) ++ cutD (ds.map eN) (some (a + 1)) none)) := p5
          rw [cut_map, cut_map, ← List.map_append] at p5
          exact p5
        refine b_nil ⟨B5, (x3.b.trans x4.b).trans x5.b, x5.s, _, _, v5, cutD ds none (some a) ++ cutD ds (some (a + 1)) none, acc ++ [v4], l ++ [ds[a]'ha'], rfl, p5, by rw [c.1]; omega, fun x hx => hsub x (c.2 x hx), x5.h _ _ upd_same, ?_, by rw [List.length_append, hll]; rfl, fun x hx => ?_, (nxb_hid (((x'.trans x2.bx).trans x3).trans x4.bx) hp0 bp4).trans x5.bx, (S4.nx x5).le (by rw [c.1]; omega), x5.off upd_same bp4⟩
        · rw [List.map_append]
          exact dpa_snoc (dpa_same ((x2.b.trans x3.b).trans (x4.b.trans x5.b)) hda) (dp_same x5.b p4)
        · rcases List.mem_append.mp hx with hx | hx
          · exact hls x hx
          · rw [List.mem_singleton.mp hx]
            exact hsub _ (List.getElem_mem _)
    · subst e
      have x2 : NxB q B z.H (upd B' p (.lst acc)) H' := nxb_see x' hp0 bp hacc
      rw [List.length_range] at hll
      refine b_cons (sb_retD (n := 0) (k := j) x2 (bst_see (S'.le (by omega)) x2 S.x.som S.u) (ev_var (P := exD K (fun r : List Nat => r.length = rows.length ∧ ∀ x ∈ r, x ∈ rows) eLN) 3 rfl ⟨l, ⟨hll, hls⟩, .lst (.inl (.inl upd_same)) (dpa_same (same_new bp) hda)⟩).bv)
end
end K7
/-! Texts of letters. -/
namespace K7
set_option pp.maxSteps 300
open PySem PySem.Spec PyProof.Rows L2
abbrev sgns : Str := "abcdefghijklmnopqrstuvwxyz"
def Let (c : Nat) : Prop := 97 ≤ c ∧ c ≤ 122
abbrev wd (l : List Nat) : Str := ⟨l.toArray⟩
abbrev sg (c : Nat) : Str := ⟨#[c]⟩
theorem sgns_at : ∀ i, i < 26 → ∃ c, sgns.cps.toList[i]? = some c ∧ Let c := by
  have h : sgns.cps.toList = List.range' 97 26 := by decide +kernel
  intro i hi
  refine ⟨97 + i, ?_, by unfold Let; omega⟩
  rw [h, List.getElem?_range' hi, Nat.one_mul]
theorem wd_len (l : List Nat) : (wd l).length = l.length := rfl
theorem wd_app (l m : List Nat) : wd l ++ wd m = wd (l ++ m) := by
  show Str.append (wd l) (wd m) = _
  unfold Str.append
  simp
theorem wd_to {l : List Nat} {k : Nat} : cutS (wd l) none ((some k).map Int.ofNat) = wd (l.take k) := by
  show (⟨((l.drop 0).take (min k (wd l).length - 0)).toArray⟩ : Str) = _
  rw [wd_len, List.drop_zero, Nat.sub_zero]
  congr 2
  rcases Nat.le_total k l.length with h | h
  · rw [Nat.min_eq_left h]
  · rw [Nat.min_eq_right h, List.take_length, List.take_of_length_le h]
theorem wd_from {l : List Nat} {k : Nat} : cutS (wd l) ((some k).map Int.ofNat) none = wd (l.drop k) := by
  show (⟨((l.drop (min k (wd l).length)).take ((wd l).length - min k (wd l).length)).toArray⟩ : Str) = _
  rw [wd_len]
  congr 1
  congr 1
  rcases Nat.le_total k l.length with h | h
  · rw [Nat.min_eq_left h, List.take_of_length_le (by rw [List.length_drop]; omega)]
  · rw [Nat.min_eq_right h, List.drop_of_length_le h, List.drop_of_length_le (Nat.le_refl _)]
    simp
theorem joinL_sg : ∀ l : List Nat, TL.joinL [] (l.map fun c => [c]) = l
  | [] => rfl
  | [c] => rfl
  | c :: d :: l => by
    show [c] ++ ([] ++ TL.joinL [] ((d :: l).map fun c => [c])) = _
    rw [joinL_sg (d :: l)]
    rfl
theorem str_toList {x y : Str} (h : x.cps.toList = y.cps.toList) : x = y := by
  obtain ⟨⟨a⟩⟩ := x
  obtain ⟨⟨b⟩⟩ := y
  have h : a = b := h
  rw [h]
theorem join_sg (l : List Nat) : Txt.join (Str.ofString "") (l.map sg) = wd l := by
  apply str_toList
  rw [TL.join_eq]
  have := TL.tl_join (Str.ofString "") (l.map sg)
  rw [List.map_map] at this
  exact this.trans (joinL_sg l)
theorem name_ok {l : List Nat} (h1 : 1 ≤ l.length) (h8 : l.length ≤ 8) (hc : ∀ c ∈ l, Let c) : NameOk (wd l) := by
  refine ⟨fun e => ?_, ?_, h8⟩
  · have e2 : l = [63] := (congrArg (fun x : Str => x.cps.toList) e : _)
    have := hc 63 (by rw [e2]; simp)
    unfold Let at this
    omega
  · show PyData.canLay0 (.str (wd l)) = true
    simp only [PyData.canLay0]
    show (l.toArray.all fun c => decide (c < 0x110000)) = true
    rw [Array.all_eq_true_iff_forall_mem]
    intro c hm
    have := hc c (by simpa using hm)
    unfold Let at this
    exact decide_eq_true (by omega)
section
variable {X : Cx} {a b e : Expr} {σ : L2.St} {q : Addr} {B : Hp} {p pos apos : Pos} {n m l : Nat}
/-- signs[a draw] -/
theorem bv_sgn {pr : Nat → Prop} (hp : ∀ i, pr i → i < 26) (ha : EV X a σ B (dt X.K (eS sgns))) (hb : BV X b σ q B n (exD X.K pr eN)) (hs : PlainIx b) : BV X (.Subscript a b pos) σ q B n (exD X.K Let fun c => eS (sg c)) :=
  bv_ix (n := 0) (m := n) ix_str hs ha.bv hb (fun x y B1 _ px ⟨i, hi, py⟩ => by
    obtain ⟨c, e1, e2⟩ := sgns_at i (hp i hi)
    exact rv_now ⟨c, e2, .str _⟩ fun H s Q g => ⟨sgns, (i : Int), c, dp_s px, dp_i py, by decide +kernel, atI_nat e1, g⟩) (by omega)
theorem ev_sgn {i : Nat} (hi : i < 26) (ha : EV X a σ B (dt X.K (eS sgns))) (hb : EV X b σ B (dt X.K (eN i))) (hs : PlainIx b) : EV X (.Subscript a b pos) σ B (exD X.K Let fun c => eS (sg c)) :=
  ev_ix ix_str hs ha hb fun x y B1 _ px py => by
    obtain ⟨c, e1, e2⟩ := sgns_at i hi
    exact rv_now ⟨c, e2, .str _⟩ fun H s Q g => ⟨sgns, (i : Int), c, dp_s px, dp_i py, by decide +kernel, atI_nat e1, g⟩
theorem len_sum : ∀ l : List Nat, ((l.map sg).map (·.length)).sum = l.length
  | [] => rfl
  | c :: l => by
    rw [List.map_cons, List.map_cons, List.sum_cons, len_sum l, List.length_cons]
    show 1 + l.length = _
    omega
theorem bv_join {pr : List Nat → Prop} (ha : EV X a σ B (dt X.K (eS (Str.ofString "")))) (hb : BV X b σ q B n (exD X.K pr fun l => .list (l.map fun c => eS (sg c)))) (hp : ∀ l, pr l → l.length ≤ 100)
    (hs : starEach [b] X.env = [(false, eval b X.env)] := by rfl) (hbase : attributeBase a "join" X.env (eval a X.env) = eval a X.env := by rfl) (hline : (apos.endLine == pos.line) = true := by rfl) : BV X (.Call (.Attribute a "join" apos) [b] [] pos) σ q B n (exD X.K pr fun l => eS (wd l)) :=
  bv_of (pe_join pe_w pe_w hs hbase hline) fun H k S Q g => ha H S.s _ fun u B1 H1 x1 pu => ⟨⟨_, dp_s pu⟩, BV.mono x1.b hb H1 k (S.nx x1) _ fun v B2 H2 x2 S2 ⟨l, pl, pv⟩ => by
    obtain ⟨t, xs, rfl, hl, hd⟩ := dp_l pv
    have hd : DpAll X.K B2 xs ((l.map sg).map eS) := by
      rw [List.map_map]
      exact hd
    have hx := dpa_strs hd
    have hl100 := hp l pl
    refine ⟨_, t, l.map sg, dp_s pu, rfl, .inl (by rw [← hx]; exact same_l S2.s hl), ?_, ?_⟩
    · rw [len_sum]
      have : (Str.ofString "").length = 0 := by decide +kernel
      rw [this]
      omega
    · rw [join_sg]
      exact g _ B2 H2 (x1.bx.trans x2) S2 ⟨l, pl, .str _⟩⟩
theorem ev_wTo {l : List Nat} {hi : Option Expr} {k : Nat} {p2 : Pos} (ha : EV X a σ B (dt X.K (eS (wd l)))) (hz : l.length ≤ 100) (hh : EO X hi σ B (some k)) : EV X (.Subscript a (.Slice none hi none p2) pos) σ B (dt X.K (eS (wd (l.take k)))) :=
  ev_of (pe_slice sl_str pe_w po_w po_w) fun H s Q q => ha H s _ fun u B1 H1 x1 pu => (eo_no.mono x1.b).run H1 x1.s _ fun B2 H2 x2 => (hh.mono (x1.b.trans x2.b)).run H2 x2.s _ fun B3 H3 x3 =>
    ⟨wd l, dp_s pu, Nat.le_trans hz (by decide), by
      have e := wd_to (l := l) (k := k)
      rw [show (none : Option Nat).map Int.ofNat = none from rfl, e]
      exact q _ _ _ (x1.trans (x2.trans x3)) (.str _)⟩
theorem ev_wFrom {l : List Nat} {lo : Option Expr} {k : Nat} {p2 : Pos} (ha : EV X a σ B (dt X.K (eS (wd l)))) (hz : l.length ≤ 100) (hh : EO X lo σ B (some k)) : EV X (.Subscript a (.Slice lo none none p2) pos) σ B (dt X.K (eS (wd (l.drop k)))) :=
  ev_of (pe_slice sl_str pe_w po_w po_w) fun H s Q q => ha H s _ fun u B1 H1 x1 pu => (hh.mono x1.b).run H1 x1.s _ fun B2 H2 x2 => (eo_no.mono (x1.b.trans x2.b)).run H2 x2.s _ fun B3 H3 x3 =>
    ⟨wd l, dp_s pu, Nat.le_trans hz (by decide), by
      have e := wd_from (l := l) (k := k)
      rw [show (none : Option Nat).map Int.ofNat = none from rfl, e]
      exact q _ _ _ (x1.trans (x2.trans x3)) (.str _)⟩
theorem ev_addS {x y : Str} (ha : EV X a σ B (dt X.K (eS x))) (hb : EV X b σ B (dt X.K (eS y))) (hz : x.length + y.length ≤ 1000) : EV X (.BinOp a .Add b pos) σ B (dt X.K (eS (x ++ y))) :=
  ev_bin op_add_str ha hb fun u v B1 _ px py => rv_now (.str _) fun H s Q g => ⟨x, y, dp_s px, dp_s py, Nat.le_trans hz (by decide), g⟩
/-- arithmetic with a draw -/
theorem bv_add {pr qr : Int → Prop} (ha : BV X a σ q B n (exD X.K pr eI)) (hb : BV X b σ q B m (exD X.K qr eI)) (hl : n + m ≤ l := by omega) {rr : Int → Prop} (hr : ∀ i j, pr i → qr j → rr (i + j)) : BV X (.BinOp a .Add b pos) σ q B l (exD X.K rr eI) :=
  bv_bin op_add ha hb (fun x y B1 _ ⟨i, pi, px⟩ ⟨j, pj, py⟩ => rv_now ⟨i + j, hr i j pi pj, .int _⟩ fun H s Q g => ⟨i, j, dp_i px, dp_i py, g⟩) hl
/-- 1 + a draw -/
theorem bv_one {pr rr : Nat → Prop} {k : Nat} {kk : Nat} {p2 : Pos} (hb : BV X b σ q B n (exD X.K pr eN)) (hr : ∀ j, pr j → rr (k + j)) : BV X (.BinOp (.Constant (.int (k : Int)) kk p2) .Add b pos) σ q B n (exD X.K rr eN) :=
  bv_bin (n := 0) (m := n) op_add (ev_int (i := (k : Int))).bv hb (fun x y B1 _ px ⟨j, pj, py⟩ => rv_now ⟨k + j, hr j pj, .int _⟩ fun H s Q g => ⟨(k : Int), (j : Int), dp_i px, dp_i py, g⟩) (by omega)
end
end K7
/-! _law_names. -/
namespace K7
set_option pp.maxSteps 300
open PySem PySem.Spec PyProof.Rows L2
section
variable {X : Cx} {e e1 e2 e3 c : Expr} {body : List Stmt} {D : Ends} {σ : L2.St} {q : Addr} {B H : Hp} {P1 P2 P3 : Mp} {pos p1 p2 p3 : Pos} {x y z : Str} {n k : Nat}
theorem sb_par3 (i j l : Nat) {kt k2 : Nat} {pt pt2 : Pos} (hc : X.calm = true) (hnd : X.N.Nodup) (hij : i ≠ j) (hil : i ≠ l) (hjl : j ≠ l) (St : BSt q B H (n + k)) (ha : BA X [e1, e2, e3] σ q B n [P1, P2, P3]) (kk : ∀ v w u B1 H1, NxB q B H B1 H1 → BSt q B1 H1 k → P1.p v B1 → P2.p w B1 → P3.p u B1 → D.nx (((σ.set i (some v)).set j (some w)).set l (some u)) H1)
    (hN : X.N[i]? = some x := by rfl) (hM : X.N[j]? = some y := by rfl) (hO : X.N[l]? = some z := by rfl) (hx : X.env.scope.names.lookup x = some .local := by rfl) (hy : X.env.scope.names.lookup y = some .local := by rfl) (hz : X.env.scope.names.lookup z = some .local := by rfl)
    (hw : swappedStores [.Tuple [.Name x p1, .Name y p2, .Name z p3] kt pt] (.Tuple [e1, e2, e3] k2 pt2) X.env = pure (some [x, y, z]) := by rfl)
    (hs : swapsWithSole [.Tuple [.Name x p1, .Name y p2, .Name z p3] kt pt] (.Tuple [e1, e2, e3] k2 pt2) pos.line X.env = pure false := by rfl) :
    wS X (.Assign [.Tuple [.Name x p1, .Name y p2, .Name z p3] kt pt] (.Tuple [e1, e2, e3] k2 pt2) pos) D σ H :=
  s_of (ps_par3 hc hnd hN hM hO hij hil hjl hx hy hz pa_w hw hs) (ha H k St _ fun vs B1 H1 x1 S1 pv => by
    obtain ⟨v, w, u, rfl, h1, h2, h3⟩ := allM3 pv
    exact ⟨v, w, u, rfl, kk v w u B1 H1 x1 S1 h1 h2 h3⟩)
/-- an if whose two ways meet again -/
theorem s_join {b : Bool} (R : L2.St → Hp → Hp → Prop) (sb : Same B H) (hc : ET X c σ B b) (h1 : b = true → ∀ B1 H1, Nx B H B1 H1 → wB X body { D with nx := fun σ' H' => ∃ B', R σ' B' H' } σ H1) (h2 : b = false → ∀ B1 H1, Nx B H B1 H1 → R σ B1 H1) (kk : ∀ σ' B' H', R σ' B' H' → D.nx σ' H') : wS X (.If c body [] pos) D σ H :=
  s_if sb hc (fun hb B1 H1 x1 => b_imp (h1 hb B1 H1 x1) (fun _ _ ⟨B', r⟩ => kk _ B' _ r) (fun _ _ z => z) (fun _ _ z => z) fun _ _ z => z) fun hb B1 H1 x1 => b_nil (kk _ B1 _ (h2 hb B1 H1 x1))
end
def isInt : Expr → Bool
  | .Constant (.int _) _ _ => true
  | _ => false
def intOf : Expr → Int
  | .Constant (.int i) _ _ => i
  | _ => 0
theorem ea_ints {X : Cx} {σ : L2.St} {B : Hp} : ∀ es : List Expr, es.all isInt = true → EA X es σ B ((es.map fun e => eI (intOf e)).map (dt X.K))
  | [], _ => ea_nil
  | e :: es, h => by
    rw [List.all_cons, Bool.and_eq_true] at h
    rw [List.map_cons, List.map_cons]
    match e, h.1 with
    | .Constant (.int i) k p, _ => exact ea_cons ev_int (ea_ints es h.2)
theorem oneOf_int {K : PySem.W.Frag} {l : List Int} {v : V} {B : Hp} (h : (oneOf ((l.map eI).map (dt K))).p v B) : ∃ i ∈ l, v = .int i := by
  obtain ⟨Q, hQ, p⟩ := h
  rw [List.map_map] at hQ
  obtain ⟨i, hi, rfl⟩ := List.mem_map.mp hQ
  exact ⟨i, hi, dp_i p⟩
theorem ev_ints {X : Cx} {σ : L2.St} {B : Hp} {es : List Expr} {p : Pos} (l : List Int) (h : es.all isInt = true) (h2 : es.map intOf = l) (hl : l.length ≤ 1000) : EV X (.List es p) σ B (lsM X.K ((l.map eI).map (dt X.K))) := by
  have h3 : (es.map fun e => eI (intOf e)) = l.map eI := by rw [← h2, List.map_map]; rfl
  have := ea_ints (X := X) (σ := σ) (B := B) es h
  rw [h3] at this
  exact EV.ls (ev_lst this (by rw [List.length_map]; omega))
theorem se_name {x : Str} {p : Pos} {r : List Expr} {env : Env} : starEach (.Name x p :: r) env = (false, eval (.Name x p) env) :: starEach r env := rfl
theorem se_list {es r : List Expr} {p : Pos} {env : Env} : starEach (.List es p :: r) env = (false, eval (.List es p) env) :: starEach r env := rfl
theorem bv_ofInts {X : Cx} {σ : L2.St} {q : Addr} {B : Hp} {es : List Expr} {p1 p2 p3 pos : Pos} {n : Nat} (l : List Int) (Go : Gf X.prog X.w X.K X.mg X.base 2 "_law_of" (spOf X.K)) (hr : Room 2 X.A) (he : EV X (.Name "_law_box_here" p2) σ B (eqM (.ref q))) (h : es.all isInt = true) (h2 : es.map intOf = l) (hl : 1 ≤ l.length ∧ l.length ≤ 1000) (hn : 1 ≤ n) (hg : Gl X "_law_of" := by rfl) : BV X (.Call (.Name "_law_of" p1) [.Name "_law_box_here" p2, .List es p3] [] pos) σ q B n (exD X.K (fun i : Int => i ∈ l) eI) :=
  BV.imp (bv_call (n := 0) (l := n) ((l.map eI).map (dt X.K)) Go hr he (ba_cons (n := 0) (m := 0) (ev_ints l h h2 hl.2).bv ba_nil (by decide) (hs := se_list)) ⟨by simpa using hl.1, by simpa using hl.2⟩ (by show 0 + 1 ≤ n; omega) hg (by decide) se_name (by rw [se_list]; rfl)) fun v B1 _ p => by
    obtain ⟨i, hi, rfl⟩ := oneOf_int p
    exact ⟨i, hi, .int _⟩
abbrev sNm : List Str := ["_law_box_here", "_law_some", "_law_signs_so", "_law_k", "_law_stem_so", "_law_far_so", "_law_spot_so", "_law_near_so", "_law_first_so", "_law_stride_so", "_law_found", "_law_size_so", "_law_word_so", "_law_at_so", "_law_sign_so", "_law_turn"]
theorem scNm : FnScope sNm ["_law_box_here", "_law_some"] (defScope (topS 49)) := ⟨rfl, rfl, rfl, by decide +kernel, rfl, by decide +kernel, by decide +kernel⟩
abbrev strides : List Int := [1, 3, 5, 7, 9, 11, 15, 17, 19, 21, 23, 25]
abbrev spNm (K : PySem.W.Frag) : Sp := spB (fun m : Nat => [dt K (eN m)]) (fun m => m ≤ 5) (fun m => 13 + 9 * m) fun m => exD K (fun l : List Str => l.length = m ∧ ∀ x ∈ l, NameOk x) fun l => .list (l.map eS)
section
variable {P : Program} {w : World} {K : PySem.W.Frag} {mg : Str → Option Value} {base : Heap}
abbrev fxNm (P : Program) (w : World) (K : PySem.W.Frag) (mg : Str → Option Value) (base : Heap) (z : Fz) : Cx := fx P w K mg base sNm "_law_names" (topS 49) z
def forB : Stmt → List Stmt
  | .For _ _ b _ _ => b
  | _ => []
abbrev nmTail : List Stmt := (forB ((defBody (topS 49)).getD 6 (.Pass default))).drop 3
set_option maxHeartbeats 4000000 in
theorem nm_tail (L : Bl mg) (z : Fz) {D : Ends} {B H : Hp} {p : Addr} {a0 a1 a4 a5 a7 a13 a14 a15 : Option V} {it spot first size : Nat} {stride : Int} {wl : List Nat} {acc : List V} (sb : Same B H) (hs25 : 0 ≤ stride ∧ stride ≤ 25) (hsize : 1 ≤ size ∧ size ≤ 8) (hwl : wl.length = size) (hwc : ∀ c ∈ wl, Let c) (hacc : H p = some (.lst acc)) (hal : acc.length < 100000)
    (kk : ∀ (l' : List Nat) (c : Nat) B' H', Nx B H B' H' → NameOk (wd l') → D.nx [a0, a1, some (.str sgns), some (.int (it : Int)), a4, a5, some (.int (spot : Int)), a7, some (.int (first : Int)), some (.int stride), some (.ref p), some (.int (size : Int)), some (.str (wd wl)), some (.int ((spot % size : Nat) : Int)), some (.str (sg c)), a15] (upd H' p (.lst (acc ++ [.str (wd l')])))) :
    wB (fxNm P w K mg base z) nmTail D [a0, a1, some (.str sgns), some (.int (it : Int)), a4, a5, some (.int (spot : Int)), a7, some (.int (first : Int)), some (.int stride), some (.ref p), some (.int (size : Int)), some (.str (wd wl)), a13, a14, a15] H := by
  have hat : spot % size < size := Nat.mod_lt _ (by omega)
  generalize hA : spot % size = at' at hat kk
  have e13 : PyData.int ((spot : Int) % (size : Int)) = eN at' := congrArg PyData.int (by rw [← hA]; exact (Int.natCast_emod spot size).symm)
  refine b_cons (s_set (P := dt K (eN at')) 13 scNm.nd sb (EV.is (ev_mod (ev_int1 L.int (ev_var (P := dt K (eN spot)) 6 rfl (.int _))) (ev_var (P := dt K (eN size)) 11 rfl (.int _)) (by omega)) e13) fun v13 B6 H6 x6 p13 => ?_)
  obtain rfl := dp_i p13
  have hn : 0 ≤ ((first : Int) + stride * (it : Int)) % 26 ∧ ((first : Int) + stride * (it : Int)) % 26 < 26 := ⟨Int.emod_nonneg _ (by decide), Int.emod_lt_of_pos _ (by decide)⟩
  generalize hI : (((first : Int) + stride * (it : Int)) % 26).toNat = ii
  have e14 : PyData.int (((first : Int) + stride * (it : Int)) % 26) = eN ii := congrArg PyData.int (by omega)
  refine b_cons (s_set (P := exD K Let fun c => eS (sg c)) 14 scNm.nd x6.s (ev_sgn (X := fxNm P w K mg base z) (i := ii) (by omega) (ev_var (P := dt K (eS sgns)) 2 rfl (.str _)) (EV.is (ev_mod (ev_int1 L.int (ev_add (ev_var (P := dt K (eN first)) 8 rfl (.int _)) (ev_mul (ev_var (P := dt K (eI stride)) 9 rfl (.int _)) (ev_var (P := dt K (eN it)) 3 rfl (.int _)) (.inl ⟨by omega, by omega⟩)))) ev_int (by decide)) e14) (fun _ _ => rfl)) fun v14 B7 H7 x7 ⟨c, hc, p14⟩ => ?_)
  obtain rfl := dp_s p14
  have hacc7 := x7.h _ _ (x6.h _ _ hacc)
  have hl1 : (wl.take at').length = at' := by rw [List.length_take]; omega
  have hl2 : (wl.drop (at' + 1)).length = size - (at' + 1) := by rw [List.length_drop]; omega
  have e8 : PyData.str (wd (wl.take at') ++ sg c ++ wd (wl.drop (at' + 1))) = eS (wd (wl.take at' ++ [c] ++ wl.drop (at' + 1))) := by
    rw [← wd_app, ← wd_app]
  have e5 : PyData.int ((at' : Int) + 1) = eN (at' + 1) := rfl
  have z1 : (wd (wl.take at')).length + (sg c).length ≤ 1000 := by
    rw [wd_len, hl1]
    show at' + 1 ≤ 1000
    omega
  have z2 : (wd (wl.take at') ++ sg c).length + (wd (wl.drop (at' + 1))).length ≤ 1000 := by
    rw [show sg c = wd [c] from rfl, wd_app, wd_len, wd_len, List.length_append, hl1, hl2]
    simp
    omega
  refine b_cons (s_app (P := dt K (eS (wd (wl.take at' ++ [c] ++ wl.drop (at' + 1))))) 10 x7.s rfl hacc7 hal (EV.is (ev_addS (ev_addS (ev_wTo (ev_var (P := dt K (eS (wd wl))) 12 rfl (.str _)) (by omega) (eo_yes (ev_var (P := dt K (eN at')) 13 rfl (.int _)))) (ev_var (P := dt K (eS (sg c))) 14 rfl (.str _)) z1) (ev_wFrom (ev_var (P := dt K (eS (wd wl))) 12 rfl (.str _)) (by omega) (eo_yes (k := at' + 1) (EV.is (ev_add (ev_var (P := dt K (eN at')) 13 rfl (.int _)) ev_int) e5))) z2) e8) fun v8 B8 H8 x8 p8 => ?_)
  obtain rfl := dp_s p8
  refine b_nil (kk _ c B8 H8 ((x6.trans x7).trans x8) (name_ok ?_ ?_ fun d hd => ?_))
  · rw [List.length_append, List.length_append, hl1, hl2]
    simp
    omega
  · rw [List.length_append, List.length_append, hl1, hl2]
    simp
    omega
  · rcases List.mem_append.mp hd with hd | hd
    · rcases List.mem_append.mp hd with hd | hd
      · exact hwc d (List.mem_of_mem_take hd)
      · rw [List.mem_singleton.mp hd]
        exact hc
    · exact hwc d (List.mem_of_mem_drop hd)
end
end K7
/-! _law_names, whole. -/
namespace K7
set_option pp.maxSteps 300
open PySem PySem.Spec PyProof.Rows L2
section
variable {P : Program} {w : World} {K : PySem.W.Frag} {mg : Str → Option Value} {base : Heap}
set_option maxHeartbeats 8000000 in
theorem ok_nm (L : Bl mg) (G : Gf P w K mg base 1 "_law_take" (spTake K)) (Go : Gf P w K mg base 2 "_law_of" (spOf K)) (D : Gd K mg "_law_names" (topS 49) []) : Gf P w K mg base 3 "_law_names" (spNm K) :=
  D.box (k := 2) scNm (fun _ => rfl) (fun _ _ _ _ _ _ us hl => match us, hl with | [_, _], _ => rfl) fun z vs q B j m hm ha S hr => by
    obtain ⟨va, rfl, h1⟩ := allM1 ha
    have e1 := dp_i h1
    subst e1
    have hr1 : Room 1 (fxNm P w K mg base z).A := hr.mono (by decide)
    refine b_cons (s_set 2 scNm.nd S.s ev_str fun v2 B1 H1 x1 p2 => ?_)
    obtain rfl := dp_s p2
    change wB (fxNm P w K mg base z) _ _ [some (.ref q), some (.int (m : Int)), some (.str sgns), none, none, none, none, none, none, none, none, none, none, none, none, none] _
    have S1 : BSt q B1 H1 (8 + (5 + 9 * m + j)) := (S.nx x1).le (by omega)
    refine b_cons (sb_set 4 scNm.nd S1 (bv_join (pr := fun l => l.length = 8 ∧ ∀ c ∈ l, Let c) ev_str (bv_lcM (X := fxNm P w K mg base z) (own := [("_law_k", 3)]) (n := 1) (L := 8) (n0 := 0) (pk := Let) rfl scNm.nd (blkOk_by (N := sNm) (sc := defScope (topS 49)) (by decide +kernel)) (sn_range (n := 8) L.range ev_int (by decide)).bv (fun its h => by rw [h]; decide) (by decide)
      (fun its _ it _ B' s u v hv => ⟨[some (.ref q), some (.int (m : Int)), some (.str sgns), some v, none, none, none, none, none, none, none, none, none, none, none, none], rfl, fun zz H' s' => tj_name 3 scNm.nd, fun zz => bv_sgn (X := bx (fxNm P w K mg base z) _ zz) (pr := fun i => i < 26) (fun i h => h) (ev_var 2 rfl (.str _)) (bv_call (X := bx (fxNm P w K mg base z) _ zz) (n := 0) 26 G hr1 (ev_var (P := eqM (.ref q)) 0 rfl rfl) (ba_cons (n := 0) (m := 0) ev_int.bv ba_nil (by decide)) ⟨by decide, by decide⟩ (by decide)) (fun _ _ => rfl)⟩)
      (fun its l h1 h2 h3 => ⟨by rw [h2, h1]; rfl, h3⟩) (by decide)) (fun l h => by omega)) fun v4 B2 H2 x2 S2 ⟨stem, ⟨hst, hlt⟩, p4⟩ => ?_)
    obtain rfl := dp_s p4
    change wB (fxNm P w K mg base z) _ _ [some (.ref q), some (.int (m : Int)), some (.str sgns), none, some (.str (wd stem)), none, none, none, none, none, none, none, none, none, none, none] _
    have S2 : BSt q B2 H2 (3 + (2 + 9 * m + j)) := S2.le (by omega)
    have tk : ∀ (σ : L2.St) (B : Hp) (t : Nat) {p1 p2 p3 p4 : Pos} {k : Nat}, σ[0]? = some (some (.ref q)) → 1 ≤ t ∧ t ≤ 1000000 → BV (fxNm P w K mg base z) (.Call (.Name "_law_take" p1) [.Name "_law_box_here" p2, .Constant (.int (t : Int)) k p3] [] p4) σ q B 1 (exD K (fun i => i < t) eN) := fun σ B t p1 p2 p3 p4 k h0 ht => bv_call (X := fxNm P w K mg base z) (n := 0) t G hr1 (ev_var (P := eqM (.ref q)) 0 h0 rfl) (ba_cons (n := 0) (m := 0) ev_int.bv ba_nil (by decide)) ht (by decide)
    refine b_cons (sb_par3 5 6 7 rfl scNm.nd (by decide) (by decide) (by decide) S2 (ba_cons (n := 1) (m := 2) (bv_one (k := 1) (rr := fun s => 1 ≤ s ∧ s ≤ 8) (tk _ _ 8 rfl (by decide)) fun i hi => by omega) (ba_cons (n := 1) (m := 1) (tk _ _ 8 rfl (by decide)) (ba_cons (n := 1) (m := 0) (tk _ _ 2 rfl (by decide)) ba_nil (by decide)) (by decide)) (by decide)) fun v5 v6 v7 B3 H3 x3 S3 ⟨far, hfar, p5⟩ ⟨spot, hspot, p6⟩ ⟨near, hnear, p7⟩ => ?_)
    obtain rfl := dp_i p5
    obtain rfl := dp_i p6
    obtain rfl := dp_i p7
    change wB (fxNm P w K mg base z) _ _ [some (.ref q), some (.int (m : Int)), some (.str sgns), none, some (.str (wd stem)), some (.int (far : Int)), some (.int (spot : Int)), some (.int (near : Int)), none, none, none, none, none, none, none, none] _
    have S3 : BSt q B3 H3 (1 + (1 + 9 * m + j)) := S3.le (by omega)
    refine b_cons (sb_set 8 scNm.nd S3 (tk _ _ 26 rfl (by decide)) fun v8 B4 H4 x4 S4 ⟨first, hfirst, p8⟩ => ?_)
    obtain rfl := dp_i p8
    change wB (fxNm P w K mg base z) _ _ [some (.ref q), some (.int (m : Int)), some (.str sgns), none, some (.str (wd stem)), some (.int (far : Int)), some (.int (spot : Int)), some (.int (near : Int)), some (.int (first : Int)), none, none, none, none, none, none, none] _
    have S4 : BSt q B4 H4 (1 + (9 * m + j)) := S4.le (by omega)
    refine b_cons (sb_set 9 scNm.nd S4 (bv_ofInts strides Go hr (ev_var (P := eqM (.ref q)) 0 rfl rfl) rfl rfl (by decide) (by decide)) fun v9 B5 H5 x5 S5 ⟨stride, hstride, p9⟩ => ?_)
    obtain rfl := dp_i p9
    change wB (fxNm P w K mg base z) _ _ [some (.ref q), some (.int (m : Int)), some (.str sgns), none, some (.str (wd stem)), some (.int (far : Int)), some (.int (spot : Int)), some (.int (near : Int)), some (.int (first : Int)), some (.int stride), none, none, none, none, none, none] _
    have x05 : NxB q B z.H B5 H5 := (((x1.bx.trans x2).trans x3).trans x4).trans x5
    refine b_cons (s_new 10 scNm.nd fun p hp => ?_)
    change wB (fxNm P w K mg base z) _ _ [some (.ref q), some (.int (m : Int)), some (.str sgns), none, some (.str (wd stem)), some (.int (far : Int)), some (.int (spot : Int)), some (.int (near : Int)), some (.int (first : Int)), some (.int stride), some (.ref p), none, none, none, none, none] _
    have hpq : p ≠ q := fun e => S5.x.som (e ▸ hp)
    have b5p : B5 p = none := same_no S5.s hp
    have hp0 : z.H p = none := by
      cases e : z.H p with
      | none => rfl
      | some o => exact absurd hp (x05.som (by rw [e]; exact fun z => by cases z))
    have S6 : BSt q B5 (upd H5 p (.lst [])) (9 * m + j) := S5.hid hpq b5p
    have hs25 : 0 ≤ stride ∧ stride ≤ 25 := by
      have : ∀ x ∈ strides, 0 ≤ x ∧ x ≤ 25 := by decide
      exact this stride hstride
    refine b_cons (s_for (X := fxNm P w K mg base z) PassesOwn.never rfl (sn_range (n := m) L.range (ev_var (P := dt K (eN m)) 1 rfl (.int _)) (by omega)) S6.s
      (fun i σ' B' H' => ∃ o3 o11 o12 o13 o14 l, σ' = [some (.ref q), some (.int (m : Int)), some (.str sgns), o3, some (.str (wd stem)), some (.int (far : Int)), some (.int (spot : Int)), some (.int (near : Int)), some (.int (first : Int)), some (.int stride), some (.ref p), o11, o12, o13, o14, none] ∧ H' p = some (.lst (l.map V.str)) ∧ l.length = i ∧ (∀ x ∈ l, NameOk x) ∧ NxB q B z.H B' H' ∧ BSt q B' H' (9 * (m - i) + j) ∧ B' p = none)
      (fun B2 H2 x2 => ⟨none, none, none, none, none, [], rfl, x2.h _ _ upd_same, rfl, (fun _ h => by cases h), (nxb_hid x05 hp0 b5p).trans x2.bx, S6.nx x2, x2.off upd_same b5p⟩)
      (fun i it σ' B' H' B2 H2 v hi ⟨o3, o11, o12, o13, o14, l, e, hacc, hll, hls, x', S', bp⟩ x2 hv => ?_) fun σ' B' H' s1 s2 ⟨o3, o11, o12, o13, o14, l, e, hacc, hll, hls, x', S', bp⟩ => ?_)
    · subst e
      obtain rfl := dp_i hv
      have hi' : i < m := by
        have := (List.getElem?_eq_some_iff.mp hi).1
        rwa [List.length_range] at this
      refine ⟨_, tj_name 3 scNm.nd, ?_⟩
      have S2 : BSt q B2 H2 (1 + (8 + (9 * (m - (i + 1)) + j))) := (S'.nx x2).le (by omega)
      have bp2 := x2.off hacc bp
      have hacc2 := x2.h _ _ hacc
      have x2' := x'.trans x2.bx
      refine b_cons (sb_set 11 scNm.nd S2 (bv_ite (R := exD K (fun s => 1 ≤ s ∧ s ≤ 8) eN) (et_eqI (ev_var (P := dt K (eN near)) 7 rfl (.int _)) ev_int) (fun _ => (ev_var (P := exD K (fun s => 1 ≤ s ∧ s ≤ 8) eN) 5 rfl ⟨far, hfar, .int _⟩).bv) (fun _ => bv_one (k := 1) (rr := fun s => 1 ≤ s ∧ s ≤ 8) (tk _ _ 8 rfl (by decide)) fun i hi => by omega)) fun v11 B3 H3 x3 S3 ⟨size, hsize, p11⟩ => ?_)
      obtain rfl := dp_i p11
      have bp3 := x3.off (by rw [hacc2]; exact fun z => by cases z) bp2
      have hacc3 := x3.h _ _ hpq hacc2
      have x3' := x2'.trans x3
      refine b_cons (s_set 12 scNm.nd S3.s (ev_wTo (ev_var (P := dt K (eS (wd stem))) 4 rfl (.str _)) (by omega) (eo_yes (ev_var (P := dt K (eN size)) 11 rfl (.int _)))) fun v12 B4 H4 x4 p12 => ?_)
      obtain rfl := dp_s p12
      have S4 := S3.nx x4
      refine b_cons (s_join (X := fxNm P w K mg base z) (fun σ' B' H' => ∃ wl : List Nat, wl.length = size ∧ (∀ c ∈ wl, Let c) ∧ σ' = [some (.ref q), some (.int (m : Int)), some (.str sgns), some (.int (it : Int)), some (.str (wd stem)), some (.int (far : Int)), some (.int (spot : Int)), some (.int (near : Int)), some (.int (first : Int)), some (.int stride), some (.ref p), some (.int (size : Int)), some (.str (wd wl)), o13, o14, none] ∧ NxB q B4 H4 B' H' ∧ BSt q B' H' (9 * (m - (i + 1)) + j)) S4.s (et_gt (ev_var (P := dt K (eN near)) 7 rfl (.int _)) ev_int) (fun _ B5 H5 x5 => ?_) (fun _ B5 H5 x5 => ⟨stem.take size, by rw [List.length_take]; omega, fun c hc => hlt c (List.mem_of_mem_take hc), rfl, x5.bx, (S4.nx x5).le (by omega)⟩) fun σ' B5 H5 ⟨wl, hwl, hwc, e, x5, S5⟩ => ?_)
      · refine b_cons (sb_set 12 scNm.nd (S4.nx x5) (bv_join (pr := fun l => l.length = size ∧ ∀ c ∈ l, Let c) ev_str (bv_lcM (X := fxNm P w K mg base z) (own := [("_law_turn", 15)]) (n := 1) (L := 8) (n0 := 0) (pk := Let) rfl scNm.nd (blkOk_by (N := sNm) (sc := defScope (topS 49)) (by decide +kernel)) (sn_range (n := size) L.range (ev_var (P := dt K (eN size)) 11 rfl (.int _)) (by omega)).bv (fun its h => by rw [h, List.length_range]; omega) (by decide)
          (fun its _ it2 _ B' s u v hv => ⟨[some (.ref q), some (.int (m : Int)), some (.str sgns), some (.int (it : Int)), some (.str (wd stem)), some (.int (far : Int)), some (.int (spot : Int)), some (.int (near : Int)), some (.int (first : Int)), some (.int stride), some (.ref p), some (.int (size : Int)), some (.str (wd (stem.take size))), o13, o14, some v], rfl, fun zz H' s' => tj_name 15 scNm.nd, fun zz => bv_sgn (X := bx (fxNm P w K mg base z) _ zz) (pr := fun i => i < 26) (fun i h => h) (ev_var 2 rfl (.str _)) (bv_call (X := bx (fxNm P w K mg base z) _ zz) (n := 0) 26 G hr1 (ev_var (P := eqM (.ref q)) 0 rfl rfl) (ba_cons (n := 0) (m := 0) ev_int.bv ba_nil (by decide)) ⟨by decide, by decide⟩ (by decide)) (fun _ _ => rfl)⟩)
          (fun its l h1 h2 h3 => ⟨by rw [h2, h1, List.length_range], h3⟩) (by decide)) (fun l h => by omega)) fun v6 B6 H6 x6 S6 ⟨wl, ⟨hwl, hwc⟩, p6⟩ => ?_)
        obtain rfl := dp_s p6
        exact b_nil ⟨B6, wl, hwl, hwc, rfl, x5.bx.trans x6, S6⟩
      · subst e
        have x5' := (x3'.trans x4.bx).trans x5
        have hacc5 := x5.h _ _ hpq (x4.h _ _ hacc3)
        have bp5 := x5.off (by rw [x4.h _ _ hacc3]; exact fun z => by cases z) (x4.off hacc3 bp3)
        refine nm_tail L z S5.s hs25 hsize hwl hwc hacc5 (by rw [List.length_map]; omega) fun l' c B8 H8 x8 hok => ?_
        have bp8 := x8.off hacc5 bp5
        refine ⟨B8, x3.b.trans (x4.b.trans (x5.b.trans x8.b)), same_over x8.s bp8, some (.int (it : Int)), some (.int (size : Int)), some (.str (wd wl)), some (.int ((spot % size : Nat) : Int)), some (.str (sg c)), l ++ [wd l'], rfl, by rw [upd_same, List.map_append]; rfl, by rw [List.length_append, hll]; rfl, fun x hx => ?_, nxb_hid (x5'.trans x8.bx) hp0 bp8, (S5.nx x8).hid hpq bp8, bp8⟩
        rcases List.mem_append.mp hx with hx | hx
        · exact hls x hx
        · rw [List.mem_singleton.mp hx]
          exact hok
    · subst e
      have y : NxB q B z.H (upd B' p (.lst (l.map V.str))) H' := nxb_see x' hp0 bp hacc
      rw [List.length_range] at hll
      refine b_cons (sb_retD (n := 0) (k := j) y (bst_see (S'.le (by omega)) y S.x.som S.u) (ev_var (P := exD K (fun l : List Str => l.length = m ∧ ∀ x ∈ l, NameOk x) fun l => .list (l.map eS)) 10 rfl ⟨l, ⟨hll, hls⟩, .lst (.inl (.inl upd_same)) (strs_dpa l)⟩).bv)
end
end K7
/-! Rules for _law_moves. -/
namespace K7
set_option pp.maxSteps 300
open PySem PySem.Spec PyProof.Rows L2
theorem tuple_mul1 (l : Addr) (items : Array Value) (n : Nat) (dd : Option Addr) (sl : Array (Option Value)) (u : Tok) :
    Meets (Builtin.«tuple.__mul__» ⟨[.ref l, .int 1 u], []⟩) (fun _ R s => s.heap.get? l = some { cls := .type "tuple", dict := dd, data := .seq items n, slots := sl } ∧ R (.ok (.ret (Value.ref l))) s) :=
  .of_wp fun prog w A R s h => by
    obtain ⟨hp, g, d, tk, os⟩ := s
    obtain ⟨hl, h⟩ := h
    have f1 := AutoSeq1.idx_int
    wp_walk using wpAny_loadPart' hl
    exact ⟨_, rfl, h⟩
section
variable {X : Cx}
def rRep1 (K : PySem.W.Frag) : R2 := fun x y H Q => ∃ l xs, x = .ref l ∧ y = .int 1 ∧ SqT K H l xs ∧ Q (.ref l) H
theorem op_rep1 : OpR X (binaryOp .Mult) (rRep1 X.K) := by
  intro pins s σ H x y v u Q I rx ry h
  obtain ⟨l, xs, rfl, rfl, hT, q⟩ := h
  cases rx
  obtain ⟨t, rfl⟩ := ry
  obtain ⟨its, r, ⟨⟨cls, dd, data, sl⟩, ho, hc, n, hd⟩, hs⟩ := I.tuple hT
  simp only at hc hd
  subst hc hd
  refine wpAny_binaryOp_repeat_ref (T := "tuple") (U := "int") (by decide) ⟨_, ho, rfl⟩ (fun s' => typeIs_int s' 1 t) noFill_tuple_mul F.fills_int_mul F.slot_int_rmul repeat_tuple F.slot_int_index.lookup
    (call_meets F.slot_int_rmul (typeIs_int s 1 t) F.entry_int_rmul (F.args_int_rmul_2 _ _) (int_rmul_tuple 1 t l its.toArray n dd sl)
      ⟨ho, rfl, ⟨_, ho, rfl⟩, call_meets F.slot_tuple_mul ⟨_, ho, rfl⟩ F.entry_tuple_mul (F.args_tuple_mul_2 _ _) (tuple_mul1 l its.toArray n dd sl t) ⟨ho, ?_⟩⟩)
  exact ⟨.ref l, H, I, rfl, q⟩
end
section
variable {X : Cx} {a b e : Expr} {σ : L2.St} {q : Addr} {B : Hp} {p pos apos : Pos} {n m l : Nat} {κ : Type}
/-- a tuple of one drawn thing -/
theorem bv_tup1 {x1 : Nat} {pr : κ → Prop} {enc : κ → PyData} (ha : BV X a σ q B n (exD X.K pr enc)) (hs : starEach [a] X.env = (false, eval a X.env) :: starEach [] X.env := by rfl) : BV X (.Tuple [a] x1 pos) σ q B n (exD X.K pr fun x => .tuple [enc x]) :=
  bv_of (pe_tup (pa_cons pe_w pa_nil hs)) fun H k S Q g => ha H k S _ fun v B1 H1 x1 S1 ⟨x, px, pv⟩ => ⟨show 1 ≤ sizeLine by decide, fun r hp => by
    have x2 := (Nx.refl x1.s).put (o := .tup [v]) hp
    exact g _ _ _ (x1.trans x2.bx) (S1.nx x2) ⟨x, px, .tup (.inl (.inl upd_same)) (.cons (dp_same x2.b pv) .nil)⟩⟩
/-- (x,) * k -/
theorem bv_repT {k : Nat} {pr : κ → Prop} {enc : κ → PyData} (ha : BV X a σ q B n (exD X.K pr fun x => .tuple [enc x])) (hb : EV X b σ B (dt X.K (eN k))) (h1 : 1 ≤ k) (h9 : k ≤ 1000) : BV X (.BinOp a .Mult b pos) σ q B n (exD X.K pr fun x => .tuple (List.replicate k (enc x))) := by
  have fl : ∀ {α : Type} (v : α) (k : Nat), (List.replicate k [v]).flatten = List.replicate k v := by
    intro α v k
    induction k with
    | zero => rfl
    | succ k ih => rw [List.replicate_succ, List.flatten_cons, ih, List.replicate_succ]; rfl
  by_cases h : k = 1
  · subst h
    exact bv_bin (n := n) (m := 0) op_rep1 ha hb.bv (fun x y B1 _ ⟨z, pz, px⟩ py => by
      obtain ⟨t, xs, rfl, ht, hd⟩ := dp_t px
      exact rv_now ⟨z, pz, .tup ht hd⟩ fun H s Q g => ⟨t, xs, rfl, dp_i py, same_t s ht, g⟩) (by omega)
  · exact bv_bin (n := n) (m := 0) op_repT ha hb.bv (fun x y B1 _ ⟨z, pz, px⟩ py => by
      obtain ⟨t, xs, rfl, ht, hd⟩ := dp_t px
      have hl := dpa_len hd
      exact fun H s Q g => ⟨t, (k : Int), xs, rfl, dp_i py, same_t s ht, fun e => (by rw [e] at hl; cases hl), (by omega), (by omega), (by rw [hl]; simp), fun r hp => by
        rw [Int.toNat_natCast]
        have x2 := (Nx.refl s).put (o := .tup (List.replicate k xs).flatten) hp
        refine g _ _ _ x2 ⟨z, pz, .tup (.inl (.inl upd_same)) ?_⟩
        have := dpa_rep (dpa_same x2.b hd) k
        rwa [fl] at this⟩) (by omega)
/-- a drawn list or another thing -/
theorem bv_or {R : Mp} {pr : List κ → Prop} {enc : κ → PyData} (ha : BV X a σ q B n (exD X.K pr fun l => .list (l.map enc))) (hb : pr [] → BV X b σ q B m R) (hR : ∀ l v B1, pr l → l ≠ [] → Dp X.K B1 v (.list (l.map enc)) → R.p v B1) (hl : n + m ≤ l := by omega) : BV X (.BoolOp .Or [a, b] pos) σ q B l R :=
  bv_of (pe_orT pe_w (pe_one pe_w)) fun H k S Q g => ha H (m + k) (S.le (by omega)) _ fun v B1 H1 x1 S1 ⟨l, pl, pv⟩ => by
    obtain ⟨t, xs, rfl, ht, hd⟩ := dp_l pv
    have e := dpa_len hd
    rw [List.length_map] at e
    refine ⟨!xs.isEmpty, .inl ⟨xs, same_l S1.s ht, rfl⟩, ?_⟩
    by_cases h : l = []
    · subst h
      obtain rfl := List.eq_nil_of_length_eq_zero e
      exact iteF (BV.mono x1.b (hb pl) H1 k S1 _ fun w B2 H2 x2 S2 pw => g w B2 H2 (x1.trans x2) S2 pw)
    · have hx : xs.isEmpty = false := by
        cases xs with
        | nil => exact absurd (List.eq_nil_of_length_eq_zero e.symm) h
        | cons => rfl
      rw [hx]
      exact iteT (g _ B1 H1 x1 (S1.le (by omega)) (hR l _ B1 pl h pv))
theorem ev_min2 {i j : Int} (hc : X.calm = true) (hm : X.mg "min" = none) (ha : EV X a σ B (dt X.K (.int i))) (hb : EV X b σ B (dt X.K (.int j))) (hg : Gl X "min" := by rfl) (h1 : starEach [a, b] X.env = (false, eval a X.env) :: starEach [b] X.env := by rfl) (h2 : starEach [b] X.env = (false, eval b X.env) :: starEach [] X.env := by rfl)
    (hpl : (backTo pos (starEach [b] X.env)).any (·.1) = false := by rfl) : EV X (.Call (.Name "min" p) [a, b] [] pos) σ B (dt X.K (.int (if j < i then j else i))) :=
  ev_blt (call_min2 hc) hm (by decide +kernel) (ea_cons ha (ea_cons hb ea_nil h2) h1) (fun vs B1 _ h => by
    obtain ⟨u, v, rfl, g1, g2⟩ := allM2 h
    exact rc_now (.int _) fun H s Q g => ⟨i, j, by rw [dp_i g1, dp_i g2], g⟩) hg (by decide) (by decide) h1 hpl
theorem ev_max2 {i j : Int} (hc : X.calm = true) (hm : X.mg "max" = none) (ha : EV X a σ B (dt X.K (.int i))) (hb : EV X b σ B (dt X.K (.int j))) (hg : Gl X "max" := by rfl) (h1 : starEach [a, b] X.env = (false, eval a X.env) :: starEach [b] X.env := by rfl) (h2 : starEach [b] X.env = (false, eval b X.env) :: starEach [] X.env := by rfl)
    (hpl : (backTo pos (starEach [b] X.env)).any (·.1) = false := by rfl) : EV X (.Call (.Name "max" p) [a, b] [] pos) σ B (dt X.K (.int (if j > i then j else i))) :=
  ev_blt (call_max2 hc) hm (by decide +kernel) (ea_cons ha (ea_cons hb ea_nil h2) h1) (fun vs B1 _ h => by
    obtain ⟨u, v, rfl, g1, g2⟩ := allM2 h
    exact rc_now (.int _) fun H s Q g => ⟨i, j, by rw [dp_i g1, dp_i g2], g⟩) hg (by decide) (by decide) h1 hpl
/-- a draw == k -/
theorem bt_eqN {pr : Nat → Prop} {j : Int} {kk : Nat} {p2 : Pos} (ha : BV X a σ q B n (exD X.K pr eN)) : BT X (.Compare a [.Eq] [.Constant (.int j) kk p2] pos) σ q B n fun _ => True :=
  bt_cmp (n := n) (m := 0) op_eq (nomark _) ha (ev_int (i := j)).bv (fun x y B1 _ ⟨i, pi, px⟩ py => ⟨decide ((i : Int) = j), True.intro, rv_now rfl fun H s Q g => by
    rw [dp_i px, dp_i py]
    refine ⟨rfl, ?_⟩
    have e : decide (V.int (i : Int) = V.int j) = decide ((i : Int) = j) := by simp
    rw [e]
    exact g⟩) (by omega)
theorem bt_gtN {pr : Nat → Prop} {j : Int} {kk : Nat} {p2 : Pos} (ha : BV X a σ q B n (exD X.K pr eN)) : BT X (.Compare a [.Gt] [.Constant (.int j) kk p2] pos) σ q B n fun _ => True :=
  bt_cmp (n := n) (m := 0) op_gt (nomark _) ha (ev_int (i := j)).bv (fun x y B1 _ ⟨i, pi, px⟩ py => ⟨decide (j < (i : Int)), True.intro, rv_now rfl fun H s Q g => ⟨(i : Int), j, dp_i px, dp_i py, g⟩⟩) (by omega)
end
end K7
/-! _law_moves. -/
namespace K7
set_option pp.maxSteps 300
open PySem PySem.Spec PyProof.Rows L2
abbrev sMv : List Str := ["_law_box_here", "_law_many_so", "_law_way_so", "_law_states_so", "_law_k", "_law_far_so", "_law_stride_so", "_law_kept_so"]
theorem scMv : FnScope sMv ["_law_box_here", "_law_many_so"] (defScope (topS 50)) := ⟨rfl, rfl, rfl, by decide +kernel, rfl, by decide +kernel, by decide +kernel⟩
def RowOk (m : Nat) (l : List Nat) : Prop := l.length = m ∧ ∀ x ∈ l, x < m
abbrev spMv (K : PySem.W.Frag) : Sp := spB (fun m : Nat => [dt K (eN m)]) (fun m => 1 ≤ m ∧ m ≤ 4) (fun _ => 12) fun m => exD K (RowOk m) eTN
theorem rep_ok {m x : Nat} (h : x < m) : RowOk m (List.replicate m x) := ⟨List.length_replicate, fun y hy => by rw [(List.mem_replicate.mp hy).2]; exact h⟩
theorem put_ok {m k x : Nat} (hk : k < m) (hx : x < m) : RowOk m (cutD (List.range m) none (some k) ++ [x] ++ cutD (List.range m) (some (k + 1)) none) := by
  constructor
  · simp only [cutD, Option.getD, List.length_append, List.length_drop, List.length_take, List.length_range, List.length_cons, List.length_nil]
    omega
  · intro y hy
    rcases List.mem_append.mp hy with hy | hy
    · rcases List.mem_append.mp hy with hy | hy
      · exact List.mem_range.mp (List.mem_of_mem_take (List.mem_of_mem_drop hy))
      · rw [List.mem_singleton.mp hy]
        exact hx
    · exact List.mem_range.mp (List.mem_of_mem_take (List.mem_of_mem_drop hy))
/-- one step along, held at the ends -/
def clampN (m : Nat) (d : Int) (k : Nat) : Nat := (if (if (k : Int) + d > 0 then (k : Int) + d else 0) < (m : Int) - 1 then (if (k : Int) + d > 0 then (k : Int) + d else 0) else (m : Int) - 1).toNat
theorem clamp_ok {m : Nat} (d : Int) (hm : 1 ≤ m) : RowOk m ((List.range m).map (clampN m d)) := by
  constructor
  · rw [List.length_map, List.length_range]
  · intro y hy
    obtain ⟨k, _, rfl⟩ := List.mem_map.mp hy
    unfold clampN
    split <;> (try split) <;> omega
section
variable {P : Program} {w : World} {K : PySem.W.Frag} {mg : Str → Option Value} {base : Heap}
abbrev fxMv (P : Program) (w : World) (K : PySem.W.Frag) (mg : Str → Option Value) (base : Heap) (z : Fz) : Cx := fx P w K mg base sMv "_law_moves" (topS 50) z
theorem tkMv (G : Gf P w K mg base 1 "_law_take" (spTake K)) {z : Fz} (hr1 : Room 1 (fxMv P w K mg base z).A) (σ : L2.St) (q : Addr) (B : Hp) (t : Nat) {p1 p2 p3 p4 : Pos} {k : Nat} (h0 : σ[0]? = some (some (.ref q))) (ht : 1 ≤ t ∧ t ≤ 1000000) : BV (fxMv P w K mg base z) (.Call (.Name "_law_take" p1) [.Name "_law_box_here" p2, .Constant (.int (t : Int)) k p3] [] p4) σ q B 1 (exD K (fun i => i < t) eN) := bv_call (X := fxMv P w K mg base z) (n := 0) t G hr1 (ev_var (P := eqM (.ref q)) 0 h0 rfl) (ba_cons (n := 0) (m := 0) ev_int.bv ba_nil (by decide)) ht (by decide)
theorem tmMv (G : Gf P w K mg base 1 "_law_take" (spTake K)) {z : Fz} (hr1 : Room 1 (fxMv P w K mg base z).A) (σ : L2.St) (q : Addr) (B : Hp) (m : Nat) {p1 p2 p3 p4 : Pos} (h0 : σ[0]? = some (some (.ref q))) (h1 : σ[1]? = some (some (.int (m : Int)))) (ht : 1 ≤ m ∧ m ≤ 1000000) : BV (fxMv P w K mg base z) (.Call (.Name "_law_take" p1) [.Name "_law_box_here" p2, .Name "_law_many_so" p3] [] p4) σ q B 1 (exD K (fun i => i < m) eN) := bv_call (X := fxMv P w K mg base z) (n := 0) m G hr1 (ev_var (P := eqM (.ref q)) 0 h0 rfl) (ba_cons (n := 0) (m := 0) (ev_var (P := dt K (eN m)) 1 h1 (.int _)).bv ba_nil (by decide)) ht (by decide)
set_option maxHeartbeats 4000000 in
theorem ok_mv (L : Bl mg) (G : Gf P w K mg base 1 "_law_take" (spTake K)) (Go : Gf P w K mg base 2 "_law_of" (spOf K)) (Gx : Gf P w K mg base 2 "_law_mixed" (spMix K)) (D : Gd K mg "_law_moves" (topS 50) []) : Gf P w K mg base 3 "_law_moves" (spMv K) :=
  D.box (k := 2) scMv (fun _ => rfl) (fun _ _ _ _ _ _ us hl => match us, hl with | [_, _], _ => rfl) fun z vs q B j m hm ha S hr => by
    obtain ⟨va, rfl, h1⟩ := allM1 ha
    have e1 := dp_i h1
    subst e1
    have hr1 : Room 1 (fxMv P w K mg base z).A := hr.mono (by decide)
    have hm6 : 1 ≤ m ∧ m ≤ 1000000 := by omega
    refine b_cons (sb_par 2 3 rfl scMv.nd (by decide) (n := 1) (k := 11 + j) (S.le (by omega)) (ba_cons (n := 1) (m := 0) (tkMv G hr1 _ _ _ 6 rfl (by decide)) (ba_cons (n := 0) (m := 0) (ev_listRg rfl L.list L.range (ev_var (P := dt K (eN m)) 1 rfl (.int _)) (by omega)).bv ba_nil (by decide)) (by decide)) fun v2 v3 B1 H1 x1 S1 ⟨way, _, p2⟩ p3 => ?_)
    obtain rfl := dp_i p2
    have p3 : Dp K B1 v3 (eLN (List.range m)) := p3
    refine b_cons (s_if S1.s (et_eqI (ev_var (P := dt K (eN way)) 2 rfl (.int _)) ev_int) (fun _ B2 H2 x2 => ?_) fun _ B2 H2 x2 => b_nil ?_)
    · refine b_cons (sb_retD (n := 11) (k := j) (x1.trans x2.bx) (S1.nx x2) (BV.le (BV.imp (R := exD K (RowOk m) eTN) (bv_repT (k := m) (bv_tup1 (tmMv G hr1 _ _ _ m rfl rfl hm6)) (ev_var (P := dt K (eN m)) 1 rfl (.int _)) hm.1 (by omega)) fun v B1 _ ⟨x, hx, p⟩ => ⟨List.replicate m x, rep_ok hx, ?_⟩) (by decide)))
      show Dp K B1 v (.tuple ((List.replicate m x).map eN))
      rw [List.map_replicate]
      exact p
    have S2 := S1.nx x2
    have p3 := dp_same x2.b p3
    have x1 := x1.trans x2.bx
    clear S1 x2
    refine b_cons (s_if S2.s (et_eqI (ev_var (P := dt K (eN way)) 2 rfl (.int _)) ev_int) (fun _ B3 H3 x3 => ?_) fun _ B3 H3 x3 => b_nil ?_)
    · refine b_cons (sb_retD (n := 11) (k := j) (x1.trans x3.bx) (S2.nx x3) (BV.le (BV.imp (R := exD K (RowOk m) eTN) (bv_tupleL (enc := fun l : List Nat => l.map eN) L.tuple (bv_call (X := fxMv P w K mg base z) (n := 0) (l := m) (List.range m) Gx hr (ev_var (P := eqM (.ref q)) 0 rfl rfl) (ba_cons (n := 0) (m := 0) (ev_var (P := dt K (eLN (List.range m))) 3 rfl (dp_same x3.b p3)).bv ba_nil (by decide)) (by rw [List.length_range]; omega) (by rw [List.length_range]; omega))) fun v B1 _ ⟨l, hl, p⟩ => ⟨l, ⟨by rw [hl.1, List.length_range], fun x hx => List.mem_range.mp (hl.2 x hx)⟩, p⟩) (by omega)))
    have S3 := S2.nx x3
    have p3 := dp_same x3.b p3
    have x1 := x1.trans x3.bx
    clear S2 x3
    refine b_cons (s_if S3.s (et_eqI (ev_var (P := dt K (eN way)) 2 rfl (.int _)) ev_int) (fun _ B4 H4 x4 => ?_) fun _ B4 H4 x4 => b_nil ?_)
    · refine b_cons (sb_par 4 5 rfl scMv.nd (by decide) (n := 2) (k := j) ((S3.nx x4).le (by omega)) (ba_cons (n := 1) (m := 1) (tmMv G hr1 _ _ _ m rfl rfl hm6) (ba_cons (n := 1) (m := 0) (tmMv G hr1 _ _ _ m rfl rfl hm6) ba_nil (by decide)) (by decide)) fun v4 v5 B5 H5 x5 S5 ⟨k, hk, p4⟩ ⟨far, hfar, p5⟩ => ?_)
      obtain rfl := dp_i p4
      obtain rfl := dp_i p5
      have p3 := dp_same x5.b (dp_same x4.b p3)
      have hpk := put_ok hk hfar
      have e5 : PyData.int ((k : Int) + 1) = eN (k + 1) := rfl
      refine b_cons (sb_retD (n := 0) (k := j) ((x1.trans x4.bx).trans x5) (S5.le (by omega)) (EV.imp (R := exD K (RowOk m) eTN) (ev_tupleL L.tuple (EV.nl (ev_cat (ev_cat (ev_slN (ev_var (P := dt K (eLN (List.range m))) 3 rfl p3) eo_no (eo_yes (ev_var (P := dt K (eN k)) 4 rfl (.int _)))) (ev_lstN (ds := [eN far]) (ea_cons (ev_var (P := dt K (eN far)) 5 rfl (.int _)) ea_nil) (show 1 ≤ 100000 by decide)) ?_) (ev_slN (ev_var (P := dt K (eLN (List.range m))) 3 rfl p3) (eo_yes (k := k + 1) (EV.is (ev_add (ev_var (P := dt K (eN k)) 4 rfl (.int _)) ev_int) e5)) eo_no) ?_))) fun v B1 _ p => ⟨_, hpk, ?_⟩).bv)
      · simp only [cutD, Option.getD, List.length_drop, List.length_take, List.length_map, List.length_range, List.length_cons, List.length_nil]
        omega
      · simp only [cutD, Option.getD, List.length_append, List.length_drop, List.length_take, List.length_map, List.length_range, List.length_cons, List.length_nil]
        omega
      · have p : Dp K B1 v (.tuple (cutD ((List.range m).map eN) none (some k) ++ [far].map eN ++ cutD ((List.range m).map eN) (some (k + 1)) none)) := p
        rw [cut_map, cut_map, ← List.map_append, ← List.map_append] at p
        exact p
    have S4 := S3.nx x4
    have p3 := dp_same x4.b p3
    have x1 := x1.trans x4.bx
    clear S3 x4
    refine b_cons (s_if S4.s (et_eqI (ev_var (P := dt K (eN way)) 2 rfl (.int _)) ev_int) (fun _ B5 H5 x5 => ?_) fun _ B5 H5 x5 => b_nil ?_)
    · refine b_cons (sb_set 6 scMv.nd (n := 1) (k := j) ((S4.nx x5).le (by omega)) (bv_call (X := fxMv P w K mg base z) (n := 0) ((([1, -1] : List Int).map eI).map (dt K)) Go hr (ev_var (P := eqM (.ref q)) 0 rfl rfl) (ba_cons (n := 0) (m := 0) (EV.ls (ev_lst (X := fxMv P w K mg base z) (ds := ([1, -1] : List Int).map eI) (ea_cons ev_int (ea_cons (ev_neg ev_int) ea_nil)))).bv ba_nil (by decide)) ⟨by simp, by simp⟩ (by decide)) fun v6 B6 H6 x6 S6 p6 => ?_)
      obtain ⟨d, hd, rfl⟩ := oneOf_int p6
      have p3 := dp_same x6.b (dp_same x5.b p3)
      refine b_cons (sb_retD (n := 0) (k := j) ((x1.trans x5.bx).trans x6) (S6.le (by omega)) (EV.imp (R := exD K (RowOk m) eTN) (ev_tupleL L.tuple (ev_lcM (X := fxMv P w K mg base z) (own := [("_law_k", 4)]) (its := List.range m) (g := fun k => eN (clampN m d k)) rfl scMv.nd (blkOk_by (N := sMv) (sc := defScope (topS 50)) (by decide +kernel)) (sn_enc (sn_list (ev_var (P := dt K (eLN (List.range m))) 3 rfl p3))) (by rw [List.length_range]; omega) fun k hk B' s v hv => ?_)) fun v B1 _ p => ⟨_, clamp_ok d hm.1, ?_⟩).bv)
      · obtain rfl := dp_i hv
        refine ⟨[some (.ref q), some (.int (m : Int)), some (.int (way : Int)), some v3, some (.int (k : Int)), none, some (.int d), none], rfl, fun zz H' s' => tj_name 4 scMv.nd, fun zz => EV.is (ev_min2 (X := bx (fxMv P w K mg base z) _ zz) rfl L.min (ev_sub (ev_var (P := dt K (eN m)) 1 rfl (.int _)) ev_int) (ev_max2 (X := bx (fxMv P w K mg base z) _ zz) rfl L.max ev_int (ev_add (ev_var (P := dt K (eN k)) 4 rfl (.int _)) (ev_var (P := dt K (eI d)) 6 rfl (.int _))))) (congrArg PyData.int ?_)⟩
        unfold clampN
        split <;> (try split) <;> (try split) <;> omega
      · show Dp K B1 v (.tuple (((List.range m).map (clampN m d)).map eN))
        rw [List.map_map]
        exact p
    have S5 := S4.nx x5
    have p3 := dp_same x5.b p3
    have x1 := x1.trans x5.bx
    clear S4 x5
    refine b_cons (s_if S5.s (et_eqI (ev_var (P := dt K (eN way)) 2 rfl (.int _)) ev_int) (fun _ B6 H6 x6 => ?_) fun _ B6 H6 x6 => b_nil ?_)
    · have p3 := dp_same x6.b p3
      refine b_cons (sb_set (P := exD K (fun l : List Nat => l ≠ [] ∧ l.length ≤ 4 ∧ ∀ x ∈ l, x < m) eLN) 7 scMv.nd (n := 4) (k := 4 + j) ((S5.nx x6).le (by omega)) (bv_or (n := 4) (m := 0) (pr := fun l : List Nat => l.length ≤ 4 ∧ ∀ x ∈ l, x < m) (enc := eN) (bv_lcF (X := fxMv P w K mg base z) (own := [("_law_k", 4)]) (n := 1) (L := 4) (n0 := 0) (g := eN) rfl scMv.nd (blkOk_by (N := sMv) (sc := defScope (topS 50)) (by decide +kernel)) (sn_enc (sn_list (ev_var (P := dt K (eLN (List.range m))) 3 rfl p3))).bv (fun its h => by rw [h, List.length_range]; omega) (by decide)
        (fun its _ it _ B' s u v hv => ⟨[some (.ref q), some (.int (m : Int)), some (.int (way : Int)), some v3, some v, none, none, none], rfl, fun zz H' s' => tj_name 4 scMv.nd, fun zz => bt_eqN (bv_call (X := bx (fxMv P w K mg base z) _ zz) (n := 0) 2 G hr1 (ev_var (P := eqM (.ref q)) 0 rfl rfl) (ba_cons (n := 0) (m := 0) ev_int.bv ba_nil (by decide)) ⟨by decide, by decide⟩ (by decide)), fun zz => ev_var 4 rfl hv⟩)
        (fun its l h1 h2 => ⟨by have := h2.length_le; rw [h1, List.length_range] at this; omega, fun x hx => by have := h2.subset hx; rw [h1] at this; exact List.mem_range.mp this⟩) (by decide))
        (fun _ => (EV.imp (R := exD K (fun l : List Nat => l ≠ [] ∧ l.length ≤ 4 ∧ ∀ x ∈ l, x < m) eLN) (ev_lst (X := fxMv P w K mg base z) (ds := [eN 0]) (ea_cons ev_int ea_nil)) fun v B1 _ p => ⟨[0], ⟨by simp, by simp, fun x hx => by rw [List.mem_singleton.mp hx]; omega⟩, p⟩).bv) (fun l v B1 hp hne p => ⟨l, ⟨hne, hp.1, hp.2⟩, p⟩) (by decide)) fun v7 B7 H7 x7 S7 ⟨kept, ⟨hk1, hk2, hk3⟩, p7⟩ => ?_)
      have p3 := dp_same x7.b p3
      have hkl : 1 ≤ kept.length := by
        cases kept with
        | nil => exact absurd rfl hk1
        | cons => simp
      refine b_cons (sb_retD (n := 4) (k := j) ((x1.trans x6.bx).trans x7) (S7.le (by omega)) (BV.imp (R := exD K (RowOk m) eTN) (bv_tupleL (enc := fun l : List Nat => l.map eN) (pr := RowOk m) L.tuple (bv_lcM (X := fxMv P w K mg base z) (own := [("_law_k", 4)]) (n := 1) (L := 4) (n0 := 0) (pk := fun x => x < m) (enc := eN) rfl scMv.nd (blkOk_by (N := sMv) (sc := defScope (topS 50)) (by decide +kernel)) (sn_enc (sn_list (ev_var (P := dt K (eLN (List.range m))) 3 rfl p3))).bv (fun its h => by rw [h, List.length_range]; omega) (by decide)
        (fun its h it hit B' s u v hv => ⟨[some (.ref q), some (.int (m : Int)), some (.int (way : Int)), some v3, some v, none, none, some v7], rfl, fun zz H' s' => tj_name 4 scMv.nd, fun zz => bv_ite (X := bx (fxMv P w K mg base z) _ zz) (et_in (X := bx (fxMv P w K mg base z) _ zz) (q := it ∈ kept) (ev_var (P := dt K (eN it)) 4 rfl hv) (ev_var (P := dt K (eLN kept)) 7 rfl (dp_same s p7)).ofL rfl (flat_eN _) mem_eN) (fun _ => (EV.imp (R := exD K (fun x => x < m) eN) (ev_var (P := dt K (eN it)) 4 rfl hv) fun v B1 _ p => ⟨it, by rw [h] at hit; exact List.mem_range.mp hit, p⟩).bv)
          (fun _ => BV.imp (R := exD K (fun x => x < m) eN) (bv_call (X := bx (fxMv P w K mg base z) _ zz) (n := 0) ((kept.map eN).map (dt K)) Go hr (ev_var (P := eqM (.ref q)) 0 rfl rfl) (ba_cons (n := 0) (m := 0) (EV.ls (ev_var (P := dt K (eLN kept)) 7 rfl (dp_same s p7))).bv ba_nil (by decide)) ⟨by simpa using hkl, by simp; omega⟩ (by decide)) fun v B1 _ p => by
            obtain ⟨Q, hQ, p⟩ := p
            rw [List.map_map] at hQ
            obtain ⟨i, hi, rfl⟩ := List.mem_map.mp hQ
            exact ⟨i, hk3 i hi, p⟩)⟩)
        (fun its l h1 h2 h3 => ⟨by rw [h2, h1, List.length_range], h3⟩) (by decide))) fun v B1 _ p => p))
    · have p3 := dp_same x6.b p3
      refine b_cons (sb_retD (n := 4) (k := j) (x1.trans x6.bx) ((S5.nx x6).le (by omega)) (BV.imp (R := exD K (RowOk m) eTN) (bv_tupleL (enc := fun l : List Nat => l.map eN) (pr := RowOk m) L.tuple (bv_lcM (X := fxMv P w K mg base z) (own := [("_law_k", 4)]) (n := 1) (L := 4) (n0 := 0) (pk := fun x => x < m) (enc := eN) rfl scMv.nd (blkOk_by (N := sMv) (sc := defScope (topS 50)) (by decide +kernel)) (sn_enc (sn_list (ev_var (P := dt K (eLN (List.range m))) 3 rfl p3))).bv (fun its h => by rw [h, List.length_range]; omega) (by decide)
        (fun its h it hit B' s u v hv => ⟨[some (.ref q), some (.int (m : Int)), some (.int (way : Int)), some v3, some v, none, none, none], rfl, fun zz H' s' => tj_name 4 scMv.nd, fun zz => bv_call (X := bx (fxMv P w K mg base z) _ zz) (n := 0) m G hr1 (ev_var (P := eqM (.ref q)) 0 rfl rfl) (ba_cons (n := 0) (m := 0) (ev_var (P := dt K (eN m)) 1 rfl (.int _)).bv ba_nil (by decide)) hm6 (by decide)⟩)
        (fun its l h1 h2 h3 => ⟨by rw [h2, h1, List.length_range], h3⟩) (by decide))) fun v B1 _ p => p))
end
end K7
/-! Tuples whose object is known: they have no dict of their own, so their methods may be called. -/
namespace K7
set_option pp.maxSteps 300
open PySem PySem.Spec PyProof.Rows L2
theorem dpa_ints {K : PySem.W.Frag} {H : Hp} : ∀ {xs : List V} {l : List Int}, DpAll K H xs (l.map eI) → xs = l.map V.int
  | _, [], h => by
    cases h
    rfl
  | _, y :: l, h => by
    cases h with
    | cons h1 t =>
      cases h1
      rw [dpa_ints t]
      rfl
theorem ints_dpa {K : PySem.W.Frag} {H : Hp} : ∀ l : List Int, DpAll K H (l.map V.int) (l.map eI)
  | [] => .nil
  | y :: l => .cons (.int y) (ints_dpa l)
/-- a tuple of numbers, its object known -/
def shM (sh : List Int) : Mp := ⟨fun v B => ∃ c od, v = .ref c ∧ B c = some (.frz od (.tup (sh.map V.int))) ∧ od.dict = none, fun s ⟨c, od, e, h, g⟩ => ⟨c, od, e, s _ _ h, g⟩⟩
theorem sh_dt {K : PySem.W.Frag} {sh : List Int} {v : V} {B : Hp} (h : (shM sh).p v B) : Dp K B v (eTI sh) := by
  obtain ⟨c, od, rfl, h, _⟩ := h
  exact .tup (.inl (.inr ⟨od, h⟩)) (ints_dpa sh)
section
variable {X : Cx} {a e o : Expr} {es : List Expr} {σ : L2.St} {q : Addr} {B H : Hp} {t : TA} {p p1 p2 p3 p4 pos apos cpos : Pos} {n : Nat} {l : List Int}
theorem EV.ofSh (h : EV X e σ B (shM l)) : EV X e σ B (dt X.K (eTI l)) := h.imp fun _ _ _ g => sh_dt g
def tTupF (t : TA) : TE := fun σ H Q => t σ H fun vs H1 => vs.length ≤ sizeLine ∧ ∀ r od, H1 r = none → od.dict = none → Q (.ref r) (upd H1 r (.frz od (.tup vs)))
theorem pe_tupF {x1 : Nat} (h : PA X es t) : PE X (.Tuple es x1 pos) (tTupF t) := by
  refine ⟨fun pins s σ H Q I hq => ?_⟩
  refine wpAny_Tuple_spliced (thn (h.run pos pins s σ H _ I hq) fun us s1 ⟨xs, H1, I1, r, z, q⟩ => ⟨by rw [← r.length]; exact z, ?_⟩)
  have hf : H1 s1.heap.objs.size = none := I1.hok.fresh (Nat.le_refl _)
  refine ⟨.ref s1.heap.objs.size, upd H1 s1.heap.objs.size (.frz { cls := .type "tuple", data := .seq us.toArray } (.tup xs)), I1.laid (t' := s1.toks) (fun b u e => Heap.get?_push_of_some _ e) (Nat.le_refl _) ?_, rfl, q _ _ hf rfl⟩
  exact ⟨Heap.get?_push_size _ rfl, z, us, r, ⟨_, Heap.get?_push_size _ rfl, rfl, _, rfl⟩⟩
theorem call_tuple_ofF : CallR X (.type "tuple") (fun xs H Q => ∃ p ys, xs = [.ref p] ∧ SqL X.K H p ys ∧ ∀ l od, H l = none → od.dict = none → Q (.ref l) (upd H l (.frz od (.tup ys)))) := by
  intro pins s σ H xs us Q I r h
  obtain ⟨p, ys, rfl, hq, q⟩ := h
  obtain ⟨u, rfl, rx⟩ := vals1 r
  cases rx
  obtain ⟨its, r', pl, hz⟩ := I.list hq
  have hlen := r'.length
  refine call_tuple_list pl.isList (fun h' kp => ?_) (by simp only [List.size_toArray] <;> omega)
  have I1 : Inv X pins σ H { s with heap := h' } := I.kept (t' := s.toks) kp
  have I2 : Inv X pins σ (upd H h'.objs.size (.frz { cls := .type "tuple", data := .seq its.toArray } (.tup ys))) { s with heap := h'.push { cls := .type "tuple", data := .seq its.toArray } } :=
    I1.laid (t' := s.toks) (fun b o e => Heap.get?_push_of_some _ e) (Nat.le_refl _) (show ObjOk X.prog X.w _ _ _ (.frz _ (.tup ys)) from ⟨Heap.get?_push_size _ rfl, hz, its, r', IsTup.new _ _⟩)
  exact ⟨.ref h'.objs.size, _, I2, rfl, q _ _ (I1.hok.fresh (Nat.le_refl _)) rfl⟩
def tTupRgF (te : L2.St → Hp → (Int → Int → Hp → Prop) → Prop) : TE := fun σ H Q => te σ H fun a b H1 => RgOk a b ∧ ∀ q od, H1 q = none → od.dict = none → Q (.ref q) (upd H1 q (.frz od (.tup (rgV a b))))
theorem pe_tupRgF {te : L2.St → Hp → (Int → Int → Hp → Prop) → Prop} (hc : X.calm = true) (hg : Gl X "tuple") (hm : X.mg "tuple" = none) (he : PRg X e te) (na : starEach [e] X.env = (false, eval e X.env) :: starEach [] X.env := by rfl) : PE X (.Call (.Name "tuple" p) [e] [] pos) (tTupRgF te) := by
  refine ⟨fun pins s σ H Q I h => ?_⟩
  refine Call_ (ld_blt I hg hm boot_tuple (PyProof.Rows.callWith_type1 (args_cons (thn (he pins s σ H _ I h) fun x s1 ⟨r, a, b, t, u, v, H1, ex, hr, I1, ok, q⟩ => args_nil ?_) na) na))
  subst ex
  obtain ⟨b1, b2, b3, b4, b5⟩ := ok
  refine call_tuple_range (n := (b - a).toNat) (I1.ok.hd hc) hr (small_one b1 b2 b3 b4) (rangeSize_nat a b) b5 fun h' tk acc hk hi => ?_
  have I2 : Inv X pins σ H1 { s1 with heap := h', toks := tk } := I1.kept hk
  refine ⟨.ref h'.objs.size, upd H1 h'.objs.size (.frz { cls := .type "tuple", data := .seq acc } (.tup (rgV a b))), I2.laid (t' := tk) (fun c o e => Heap.get?_push_of_some _ e) (Nat.le_refl _) (show ObjOk X.prog X.w _ _ _ (.frz _ (.tup (rgV a b))) from ⟨Heap.get?_push_size _ rfl, ?_, acc.toList, vals_rg hi, ?_⟩), rfl, q _ _ (I2.hok.fresh (Nat.le_refl _)) rfl⟩
  · rw [rgV_length, sizeLine_eq]; omega
  · rw [Array.toArray_toList]; exact IsTup.new _ _
theorem rgV_ints (n : Nat) : rgV 0 n = ((List.range n).map fun i : Nat => (i : Int)).map V.int := by
  unfold rgV
  rw [List.map_map, show ((n : Int) - 0).toNat = n by omega]
  refine List.map_congr_left fun i _ => ?_
  show V.int (0 + (i : Int)) = V.int (i : Int)
  rw [Int.zero_add]
/-- tuple(range(n)) -/
theorem ev_tupRgF (hc : X.calm = true) (hm : X.mg "tuple" = none) (hm2 : X.mg "range" = none) (h : EV X e σ B (dt X.K (eN n))) (hn : n ≤ 100000) (hg : Gl X "tuple" := by rfl) (hg2 : Gl X "range" := by rfl) (na : starEach [e] X.env = (false, eval e X.env) :: starEach [] X.env := by rfl)
    (nb : starEach [.Call (.Name "range" p2) [e] [] p3] X.env = (false, eval (.Call (.Name "range" p2) [e] [] p3) X.env) :: starEach [] X.env := by rfl) : EV X (.Call (.Name "tuple" p1) [.Call (.Name "range" p2) [e] [] p3] [] p4) σ B (shM ((List.range n).map fun i : Nat => (i : Int))) :=
  ev_of (pe_tupRgF hc hg hm (prg_1 hg2 hm2 pe_w na) nb) fun H s Q q => h H s _ fun v B1 H1 x1 pv => ⟨n, dp_i pv, ⟨by omega, by omega, by omega, by omega, by omega⟩, fun r od hr hod => by
    have x2 := (Nx.refl x1.s).put (o := .frz od (.tup (rgV 0 n))) hr
    refine q _ _ _ (x1.trans x2) ⟨r, od, rfl, ?_, hod⟩
    rw [upd_same, rgV_ints]⟩
/-- a written tuple -/
theorem ev_tupF {x1 : Nat} (h : EA X es σ B (l.map fun i => dt X.K (eI i))) (hl : l.length ≤ 100000) : EV X (.Tuple es x1 pos) σ B (shM l) :=
  ev_of (pe_tupF pa_w) fun H s Q q => h H s _ fun vs B1 H1 x1 pv => by
    have hd : DpAll X.K B1 vs (l.map eI) := allM_dt.mp (by rw [List.map_map]; exact pv)
    refine ⟨Nat.le_trans (Nat.le_of_eq (dpa_len hd)) (by rw [List.length_map]; exact Nat.le_trans hl (by decide)), fun r od hr hod => ?_⟩
    have x2 := (Nx.refl x1.s).put (o := .frz od (.tup vs)) hr
    refine q _ _ _ (x1.trans x2) ⟨r, od, rfl, ?_, hod⟩
    rw [upd_same, dpa_ints hd]
/-- tuple(a drawn list) -/
theorem bv_tupleF {pr : List Int → Prop} {m : Nat} (hm : X.mg "tuple" = none) (ha : BV X a σ q B m (exD X.K pr fun l => .list (l.map eI))) (hg : Gl X "tuple" := by rfl) (he : starEach [a] X.env = (false, eval a X.env) :: starEach [] X.env := by rfl) : BV X (.Call (.Name "tuple" p) [a] [] pos) σ q B m (exM pr shM) :=
  bv_bty call_tuple_ofF hm boot_tuple (ba_cons (m := 0) ha ba_nil (Nat.le_refl m) he) (fun vs B1 _ h => by
    obtain ⟨v, rfl, y, py, g⟩ := allM1 h
    obtain ⟨t, xs, rfl, hl, hd⟩ := dp_l g
    exact fun H s Q q => ⟨t, xs, rfl, same_l s hl, fun r od hr hod => by
      have x1 := (Nx.refl s).put (o := .frz od (.tup xs)) hr
      refine q _ _ _ x1 ⟨y, py, r, od, rfl, ?_, hod⟩
      rw [upd_same, dpa_ints hd]⟩) hg (by decide) (by decide) he rfl
/-- t.index(x) of numbers -/
theorem flat_ints (ys : List Int) : (ys.map V.int).all flatV = true := by
  rw [List.all_map]
  exact List.all_eq_true.mpr fun _ _ => rfl
theorem tup_indexI {pins : List (Addr × Obj)} {s : Shared} {c : Addr} {od : Obj} {ys : List Int} {z : Int} {t : Tok} {j : Nat} {Q : VK} (I : Inv X pins σ H s) (hc : H c = some (.frz od (.tup (ys.map V.int)))) (hy : ys[j]? = some z) (hno : ∀ m, m < j → ys[m]? ≠ some z) (q : Q (.int (j : Nat)) H) : wpAny (model X.prog X.w) X.A (call (.builtin "tuple.index") [.ref c, .int z t]) (EP X pins σ Q) X.xe s := by
  obtain ⟨its, r, pl, hz⟩ := I.tuple (xs := ys.map V.int) (.inl (.inr ⟨od, hc⟩))
  obtain ⟨⟨cls, dd, dt, sl⟩, ho, hcl, n, hd⟩ := pl
  simp only at hcl hd
  subst hcl
  subst hd
  have hl : its.toArray.size = ys.length := by rw [List.size_toArray, ← r.length, List.length_map]
  have hj : j < its.toArray.size := by rw [hl]; exact (List.getElem?_eq_some_iff.mp hy).1
  have at' : ∀ (m : Nat) (hm : m < its.toArray.size), ∃ y t', ys[m]? = some y ∧ its.toArray[m] = Value.int y t' := fun m hm => by
    have hm' : m < ys.length := by rw [← hl]; exact hm
    obtain ⟨w, hw, t', hw'⟩ := r.get (i := m) (x := .int ys[m]) (by simp [hm'])
    refine ⟨ys[m], t', List.getElem?_eq_getElem hm', ?_⟩
    have e := (List.getElem?_eq_some_iff.mp hw).2
    rw [← hw', ← e]
    simp
  refine call_meets PySem.F.slot_tuple_index ⟨_, ho, rfl⟩ PySem.F.entry_tuple_index (PySem.F.args_tuple_index_2 _ _) (TI.tuple_indexAt c its.toArray n dd sl (.int z t) (eqU (.int z)) j hj ?_ ?_)
    ⟨ho, fun w hw => mem_eqAt (x := .int z) ⟨t, rfl⟩ rfl r (flat_ints ys) w (by simpa using hw), ⟨.int (j : Nat), H, I.tok _, ⟨_, rfl⟩, q⟩⟩
  · obtain ⟨y, t', h1, h2⟩ := at' j hj
    rw [hy] at h1
    cases h1
    rw [h2]
    show (z == z) = true
    exact beq_self_eq_true z
  · intro m hm hmj
    obtain ⟨y, t', h1, h2⟩ := at' m hm
    rw [h2]
    show (y == z) = false
    exact beq_eq_false_iff_ne.mpr fun e => hno m hmj (e ▸ h1)
end
end K7
/-! t.index(x). -/
namespace K7
set_option pp.maxSteps 300
open PySem PySem.Spec PyProof.Rows L2
theorem ev_indexT {X : Cx} {o e : Expr} {σ : L2.St} {B : Hp} {apos cpos : Pos} {l : List Int} {z : Int} (ho : EV X o σ B (shM l)) (he : EV X e σ B (dt X.K (eI z))) (hz : z ∈ l)
    (q1 : starEach [e] X.env = (false, eval e X.env) :: starEach [] X.env := by rfl) (hbase : attributeBase o "index" X.env (eval o X.env) = eval o X.env := by rfl) (hline : (apos.endLine == cpos.line) = true := by rfl)
    (hfew : ((backTo cpos (starEach [e] X.env)).all (fun x => !x.1) && (backToKw cpos (keywordEach [] X.env)).all (fun x => x.1.isSome) && decide ([e].length + ([] : List Keyword).length + (if ([] : List Keyword).isEmpty then 0 else 1) < 30)) = true := by rfl) :
    EV X (.Call (.Attribute o "index" apos) [e] [] cpos) σ B (dt X.K (eN (l.findIdx fun y => decide (y = z)))) := fun H s Q q => wE_i fun pins sh I => by
  refine wpAny_Call_method_late hbase hfew hline rfl (thn (wE_o (ho H s (fun v H1 => ∃ B1, Nx B H B1 H1 ∧ (shM l).p v B1) fun v B1 H1 x1 p => ⟨B1, x1, p⟩) pins sh I) fun v s1 ⟨x, H1, I1, r1, B1, x1, c, od, ex, hc, hod⟩ => ?_)
  subst ex
  cases r1
  have hc1 := x1.s _ _ hc
  have hob := (I1.hok c _ hc1)
  obtain ⟨hget, hok⟩ := hob
  obtain ⟨its, r, pl, hzz⟩ := I1.tuple (xs := l.map V.int) (.inl (.inr ⟨od, hc1⟩))
  refine ⟨"tuple", "tuple.index", PySem.F.plainAttrs_tuple, PySem.F.slot_tuple_index, PySem.F.type_tuple_index, ?_, fun a e => ?_, ?_⟩
  · obtain ⟨ob, ho2, hcl, _⟩ := pl
    exact ⟨ob, ho2, hcl⟩
  · cases e
    exact ⟨od, hget, hod⟩
  · have hA := wA_o (a_of (Q := fun vs H2 => ∃ B2, vs = [.int z] ∧ Nx B1 H1 B2 H2) (pa_cons pe_w pa_nil q1) (EV.mono x1.b he H1 x1.s _ fun v B2 H2 x2 p => ⟨B2, by rw [dp_i p], x2⟩)) cpos pins s1 I1
    rw [q1] at hA ⊢
    refine Calls.callWith_builtin rfl (Calls.evalArgs_plain ?_)
    exact thn hA fun us s2 ⟨vs, H2, I2, r2, B2, ev, x2⟩ => by
      subst ev
      obtain ⟨u, rfl, t, rfl⟩ := vals1 r2
      obtain ⟨y, hy, hy2, hno⟩ := find_at (q := fun y => decide (y = z)) hz (decide_eq_true rfl)
      have hyz := of_decide_eq_true hy2
      subst hyz
      exact tup_indexI I2 (x2.h _ _ hc1) hy (fun m hm e => by
        have := hno m y hm e
        simp at this) (q _ B2 H2 (x1.trans x2) (.int _))
end K7
/-! Machines as the law draws them: a tuple of three, with a dict that is written no more. -/
namespace K7
set_option pp.maxSteps 300
open PySem PySem.Spec PyProof.Rows L2
/-- a tuple of things -/
def tpM (K : PySem.W.Frag) (Ps : List Mp) : Mp := ⟨fun v B => ∃ a xs, v = .ref a ∧ SqT K B a xs ∧ AllM Ps xs B, fun s ⟨a, xs, e, h, g⟩ => ⟨a, xs, e, same_t s h, AllM.mono s g⟩⟩
theorem dk_same {K : PySem.W.Frag} {rows : List (Str × PyData)} {kvs : List (Key × V)} {B B' : Hp} (s : Same B B') (g : dkAt K rows kvs B) : dkAt K rows kvs B' := paired_imp (fun _ _ h => ⟨h.1, dp_same s h.2⟩) g
theorem paired_app {α β : Type} {R : α → β → Prop} : ∀ {a c : List α} {b d : List β}, Paired R a b → Paired R c d → Paired R (a ++ c) (b ++ d)
  | _, _, _, _, .nil, h => h
  | _, _, _, _, .cons x t, h => .cons x (paired_app t h)
abbrev dRows (rows : List (Str × List Nat)) : List (Str × PyData) := rows.map fun r => (r.1, eTN r.2)
/-- a dict that stands still -/
def fdM (K : PySem.W.Frag) (rows : List (Str × List Nat)) : Mp := ⟨fun v B => ∃ d o kvs, v = .ref d ∧ B d = some (.frz o (.dK kvs)) ∧ dkAt K (dRows rows) kvs B, fun s ⟨d, o, kvs, e, h, g⟩ => ⟨d, o, kvs, e, s _ _ h, dk_same s g⟩⟩
structure Mt where
  n : Nat
  rows : List (Str × List Nat)
  sh : List Int
abbrev Mt.mac (m : Mt) : Mac := mkMac m.n m.rows m.sh
abbrev matPs (K : PySem.W.Frag) (m : Mt) : List Mp := [dt K (eN m.n), fdM K m.rows, shM m.sh]
abbrev matM (K : PySem.W.Frag) (m : Mt) : Mp := tpM K (matPs K m)
structure Mt.Ok (m : Mt) : Prop where
  n1 : 1 ≤ m.n
  n4 : m.n ≤ 4
  nd : (m.rows.map (·.1)).Nodup
  nm : ∀ r ∈ m.rows, NameOk r.1
  ro : ∀ r ∈ m.rows, RowOk m.n r.2
  sl : m.sh.length = m.n
  r1 : 1 ≤ m.rows.length
  r5 : m.rows.length ≤ 5
theorem Mt.Ok.mac {m : Mt} (h : m.Ok) : m.mac.Ok where
  n1 := h.n1
  n4 := h.n4
  nd := h.nd
  pm := srt_perm _
  nm := fun x hx => by
    obtain ⟨r, hr, rfl⟩ := List.mem_map.mp hx
    exact h.nm r hr
  ml := fun x hx => (h.ro _ (lookup_mem hx)).1
  mb := fun x hx => (h.ro _ (lookup_mem hx)).2
  sl := h.sl
  k5 := by
    show (m.rows.map (·.1)).length ≤ 5
    rw [List.length_map]
    exact h.r5
  k1 := by
    show 1 ≤ (m.rows.map (·.1)).length
    rw [List.length_map]
    exact h.r1
/-! ### writing a dict -/
def putRw (rows : List (Str × List Nat)) (x : Str) (l : List Nat) : List (Str × List Nat) :=
  if x ∈ rows.map (·.1) then rows.map (fun r => if r.1 = x then (r.1, l) else r) else rows ++ [(x, l)]
theorem dk_put {K : PySem.W.Frag} {B : Hp} {x : Str} {l : List Nat} {v : V} (hv : Dp K B v (eTN l)) {rows : List (Str × List Nat)} {kvs : List (Key × V)} (h : dkAt K (rows.map fun r => (r.1, eTN r.2)) kvs B) : dkAt K ((putRw rows x l).map fun r => (r.1, eTN r.2)) (putK kvs (.inr x) v) B := by
  have hk := dk_keys h
  rw [List.map_map] at hk
  have hany : (kvs.any fun kv => decide (kv.1 = (Sum.inr x : Key))) = decide (x ∈ rows.map (·.1)) := by
    rw [show (kvs.any fun kv => decide (kv.1 = (Sum.inr x : Key))) = ((kvs.map (·.1)).any fun k => decide (k = (Sum.inr x : Key))) from by rw [List.any_map]; rfl, hk, Bool.eq_iff_iff, List.any_eq_true, decide_eq_true_iff]
    constructor
    · rintro ⟨k, hk, e⟩
      obtain ⟨r, hr, rfl⟩ := List.mem_map.mp hk
      have e := of_decide_eq_true e
      injection e with e
      exact List.mem_map.mpr ⟨r, hr, e⟩
    · intro hx
      obtain ⟨r, hr, rfl⟩ := List.mem_map.mp hx
      exact ⟨_, List.mem_map.mpr ⟨r, hr, rfl⟩, decide_eq_true rfl⟩
  unfold putK putRw
  rw [hany]
  by_cases hx : x ∈ rows.map (·.1)
  · rw [if_pos hx, if_pos (decide_eq_true hx)]
    clear hk hany hx
    induction rows generalizing kvs with
    | nil =>
      cases h
      exact .nil
    | cons r rows ih =>
      cases h with
      | cons h1 t =>
        refine .cons ?_ (ih t)
        obtain ⟨h1, h2⟩ := h1
        dsimp only at h1 h2 ⊢
        by_cases e : r.1 = x
        · rw [if_pos e, if_pos (by rw [h1]; exact congrArg Sum.inr e)]
          exact ⟨h1, hv⟩
        · rw [if_neg e, if_neg (by rw [h1]; intro z; injection z with z; exact e z)]
          exact ⟨h1, h2⟩
  · rw [if_neg hx, if_neg (by simp [hx])]
    rw [List.map_append]
    exact paired_app h (.cons ⟨rfl, hv⟩ .nil)
theorem putRw_names {rows : List (Str × List Nat)} {x : Str} {l : List Nat} : (putRw rows x l).map (·.1) = if x ∈ rows.map (·.1) then rows.map (·.1) else rows.map (·.1) ++ [x] := by
  unfold putRw
  by_cases hx : x ∈ rows.map (·.1)
  · rw [if_pos hx, if_pos hx, List.map_map]
    apply List.map_congr_left
    intro r _
    show (if r.1 = x then (r.1, l) else r).1 = r.1
    split <;> rfl
  · rw [if_neg hx, if_neg hx, List.map_append]
    rfl
theorem putRw_mem {rows : List (Str × List Nat)} {x : Str} {l : List Nat} {r : Str × List Nat} (h : r ∈ putRw rows x l) : r ∈ rows ∨ r = (x, l) := by
  unfold putRw at h
  by_cases hx : x ∈ rows.map (·.1)
  · rw [if_pos hx] at h
    obtain ⟨r', hr, e⟩ := List.mem_map.mp h
    by_cases e2 : r'.1 = x
    · rw [if_pos e2] at e
      exact .inr (by rw [← e, e2])
    · rw [if_neg e2] at e
      exact .inl (e ▸ hr)
  · rw [if_neg hx] at h
    rcases List.mem_append.mp h with h | h
    · exact .inl h
    · exact .inr (List.mem_singleton.mp h)
theorem putRw_len {rows : List (Str × List Nat)} {x : Str} {l : List Nat} : (putRw rows x l).length ≤ rows.length + 1 ∧ 1 ≤ (putRw rows x l).length := by
  have h := congrArg List.length (putRw_names (rows := rows) (x := x) (l := l))
  rw [List.length_map] at h
  rw [h]
  by_cases hx : x ∈ rows.map (·.1)
  · rw [if_pos hx, List.length_map]
    refine ⟨by omega, ?_⟩
    obtain ⟨r, hr, _⟩ := List.mem_map.mp hx
    cases rows with
    | nil => cases hr
    | cons => simp
  · rw [if_neg hx]
    simp
theorem putRw_nd {rows : List (Str × List Nat)} {x : Str} {l : List Nat} (h : (rows.map (·.1)).Nodup) : ((putRw rows x l).map (·.1)).Nodup := by
  rw [putRw_names]
  by_cases hx : x ∈ rows.map (·.1)
  · rw [if_pos hx]
    exact h
  · rw [if_neg hx]
    refine List.nodup_append.mpr ⟨h, by simp, fun a ha b hb => ?_⟩
    rw [List.mem_singleton.mp hb]
    exact fun z => hx (z ▸ ha)
section
variable {X : Cx} {e e1 e2 a b : Expr} {es : List Expr} {σ : L2.St} {q : Addr} {B H : Hp} {P : Mp} {Ps : List Mp} {D : Ends} {st : Stmt} {p pos p1 p2 p3 : Pos} {x y : Str} {n k : Nat}
/-- made[key] = e, made a dict that is not seen -/
theorem sb_put {d : Addr} {kvs : List (Key × V)} {z : Str} (i j : Nat) (hu : X.A.units + 1 < cLine) (St : BSt q B H (n + k)) (hi : σ[i]? = some (some (.ref d))) (hj : σ[j]? = some (some (.str z))) (hd : H d = some (.dK kvs)) (hdq : d ≠ q) (hz : kvs.length < 1000) (he : BV X e σ q B n P)
    (kk : ∀ v B1 H1, NxB q B H B1 H1 → BSt q B1 H1 k → P.p v B1 → D.nx σ (upd H1 d (.dK (putK kvs (.inr z) v)))) (hN : X.N[i]? = some x := by rfl) (hM : X.N[j]? = some y := by rfl) (hv : Vis X.env.scope x := by first | exact Or.inl rfl | exact Or.inr (Or.inl rfl) | exact Or.inr (Or.inr rfl)) (hw : Vis X.env.scope y := by first | exact Or.inl rfl | exact Or.inr (Or.inl rfl) | exact Or.inr (Or.inr rfl))
    (hd1 : (x == ("__debug__" : Str)) = false := by decide) (hd2 : (x == ("__classdict__" : Str)) = false := by decide) (hd3 : (y == ("__debug__" : Str)) = false := by decide) (hd4 : (y == ("__classdict__" : Str)) = false := by decide)
    (hs : swapsWith e (some (.Subscript (.Name x p1) (.Name y p2) p3)) pos.line X.env = pure false := by rfl) : wS X (.Assign [.Subscript (.Name x p1) (.Name y p2) p3] e pos) D σ H :=
  s_of (ps_dput hu (pe_var hN hv hd1 hd2) (pe_var hM hw hd3 hd4) pe_w hs) (he H k St _ fun v B1 H1 x1 S1 pv => ⟨_, hi, _, hj, d, _, rfl, DPut.k (k := Sum.inr z) (x1.h _ _ hdq hd) (Nat.lt_of_lt_of_le hz (by decide)), kk v B1 H1 x1 S1 pv⟩)
/-- from here on the dict is written no more -/
theorem s_frzK {d : Addr} {kvs : List (Key × V)} (hd : H d = some (.dK kvs)) (h : ∀ o, wS X st D σ (upd H d (.frz o (.dK kvs)))) : wS X st D σ H := by
  refine wS_i fun pins s I => ?_
  obtain ⟨od, I1⟩ := I.lock hd True.intro
  exact wS_o (h od) pins s I1
theorem e_frzK {Q : VK} (h : wE X e σ H fun v H1 => ∃ d kvs, v = .ref d ∧ H1 d = some (.dK kvs) ∧ ∀ o, Q v (upd H1 d (.frz o (.dK kvs)))) : wE X e σ H Q := by
  refine wE_i fun pins s I => ?_
  refine thn (wE_o h pins s I) fun u s' ⟨v, H1, I1, r, d, kvs, e1, hd, hQ⟩ => ?_
  obtain ⟨od, I2⟩ := I1.lock hd True.intro
  exact ⟨v, _, I2, r, hQ od⟩
/-- a, b = e1, {} -/
theorem sb_parD (i j : Nat) {kt k2 : Nat} {pt pt2 pe : Pos} (hc : X.calm = true) (hnd : X.N.Nodup) (hij : i ≠ j) (St : BSt q B H (n + k)) (ha : BV X e1 σ q B n P) (kk : ∀ v d B1 H1, NxB q B H B1 H1 → BSt q B1 H1 k → P.p v B1 → H1 d = none → D.nx ((σ.set i (some v)).set j (some (.ref d))) (upd H1 d (.dK [])))
    (hN : X.N[i]? = some x := by rfl) (hM : X.N[j]? = some y := by rfl) (hx : X.env.scope.names.lookup x = some .local := by rfl) (hy : X.env.scope.names.lookup y = some .local := by rfl)
    (hw : swappedStores [.Tuple [.Name x p1, .Name y p2] kt pt] (.Tuple [e1, .Dict [] [] pe] k2 pt2) X.env = pure (some [x, y]) := by rfl)
    (hs : swapsWithSole [.Tuple [.Name x p1, .Name y p2] kt pt] (.Tuple [e1, .Dict [] [] pe] k2 pt2) pos.line X.env = pure false := by rfl)
    (q1 : starEach [e1, .Dict [] [] pe] X.env = (false, eval e1 X.env) :: starEach [.Dict [] [] pe] X.env := by rfl) (q2 : starEach [.Dict [] [] pe] X.env = (false, eval (.Dict [] [] pe) X.env) :: starEach [] X.env := by rfl) :
    wS X (.Assign [.Tuple [.Name x p1, .Name y p2] kt pt] (.Tuple [e1, .Dict [] [] pe] k2 pt2) pos) D σ H :=
  s_of (ps_par hc hnd hN hM hij hx hy (pa_cons pe_w (pa_cons pe_dnewK pa_nil q2) q1) hw hs) (ha H k St _ fun v B1 H1 x1 S1 pv => fun d hd => ⟨v, .ref d, rfl, kk v d B1 H1 x1 S1 pv hd⟩)
/-- a tuple of things, made -/
theorem ev_tupM {x1 : Nat} (h : EA X es σ B Ps) (hl : Ps.length ≤ 100000 := by decide) : EV X (.Tuple es x1 pos) σ B (tpM X.K Ps) :=
  ev_of (pe_tup pa_w) fun H s Q g => h H s _ fun vs B1 H1 x1 pv => ⟨Nat.le_trans (Nat.le_of_eq (allM_len pv)) (Nat.le_trans hl (by decide)), fun r hp => by
    have x2 := (Nx.refl x1.s).put (o := .tup vs) hp
    exact g _ _ _ (x1.trans x2) ⟨r, vs, rfl, .inl (.inl upd_same), AllM.mono x2.b pv⟩⟩
theorem allM_ix {B : Hp} : ∀ {Ps : List Mp} {xs : List V} {i : Nat} {P : Mp}, AllM Ps xs B → Ps[i]? = some P → ∃ v, xs[i]? = some v ∧ P.p v B
  | P :: Ps, x :: xs, 0, Q, h, e => by
    cases e
    exact ⟨x, rfl, h.1⟩
  | P :: Ps, x :: xs, i + 1, Q, h, e => by
    obtain ⟨v, h1, h3⟩ := allM_ix (i := i) h.2 (by simpa using e)
    exact ⟨v, by simpa using h1, h3⟩
  | [], _, _, _, _, e => by simp at e
  | _ :: _, [], _, _, h, _ => h.elim
/-- its i-th -/
theorem ev_ixM {i : Nat} (ha : EV X a σ B (tpM X.K Ps)) (hb : EV X b σ B (dt X.K (.int i))) (h : Ps[i]? = some P) (hs : PlainIx b := by exact fun _ _ => rfl) : EV X (.Subscript a b pos) σ B P :=
  ev_ix ix_tup hs ha hb fun x y B1 _ ⟨l, xs, e1, hl, hd⟩ py => by
    subst e1
    obtain ⟨v, hv, g⟩ := allM_ix hd h
    exact rv_now g fun H s Q q => ⟨l, xs, i, v, rfl, dp_i py, same_t s hl, atI_nat hv, q⟩
/-- the dict's row at a name -/
theorem ev_fd {rows : List (Str × List Nat)} {z : Str} (hu : X.A.units + 1 < cLine) (ha : EV X a σ B (fdM X.K rows)) (hb : EV X b σ B (dt X.K (eS z))) (h : z ∈ rows.map (·.1)) (hs : NoSl b := by exact fun _ _ => rfl) : EV X (.Subscript a b pos) σ B (dt X.K (eTN ((rows.lookup z).getD []))) :=
  ev_of (pe_dget hu pe_w pe_w hs) fun H s Q g => ha H s _ fun u B1 H1 x1 ⟨d, o, kvs, e1, hd, hk⟩ => EV.mono x1.b hb H1 x1.s _ fun w B2 H2 x2 pw => by
    subst e1
    obtain ⟨v, hv, gv⟩ := dk_val hk h
    refine ⟨d, v, rfl, .inl ⟨kvs, Sum.inr z, .inr ⟨o, x2.s _ _ (x2.b _ _ hd)⟩, dp_s pw, hv.symm⟩, g v B2 H2 (x1.trans x2) (dp_same x2.b gv)⟩
/-- for a name in the dict -/
theorem sn_fd {tg iter : Expr} {rows : List (Str × List Nat)} (h : EV X iter σ B (fdM X.K rows)) : SN X tg iter σ B rows fun r => dt X.K (eS r.1) := fun H s R r => i_of (pi_keys pe_w) (h H s _ fun v B1 H1 x1 ⟨d, o, kvs, e1, hd, hk⟩ => by
  refine ⟨d, o, e1, .inl ⟨kvs, x1.s _ _ hd, r _ _ _ x1 ?_⟩⟩
  have hl := congrArg List.length (dk_keys hk)
  rw [List.length_map, List.length_map, List.length_map] at hl
  rw [← hl]
  exact walk_keys.mono (fun H' s => s _ _ hd) fun i H' x H'' hi s y => by
    obtain ⟨rfl, k, v, hkv, rfl⟩ := y
    have hk2 := congrArg (·[i]?) (dk_keys hk)
    simp only [List.getElem?_map, hkv, Option.map_some] at hk2
    cases e3 : rows[i]? with
    | none =>
      rw [e3] at hk2
      cases hk2
    | some r =>
      rw [e3] at hk2
      simp only [Option.map_some, Option.some.injEq] at hk2
      refine ⟨Same.refl _, r, B1, rfl, Nx.refl s, ?_⟩
      rw [hk2]
      exact .str _)
/-- a call whose arguments are drawn -/
theorem bv_callE {T : Type} {args : T → List Mp} {pre : T → Prop} {nn : T → Nat} {res : T → Mp} {As : List Mp} {R : Mp} {l k : Nat} (G : Gf X.prog X.w X.K X.mg X.base k x (spB args pre nn res)) (hr : Room k X.A) (he : EV X e σ B (eqM (.ref q))) (ha : BA X es σ q B n As)
    (hA : ∀ vs B1, AllM As vs B1 → ∃ t, pre t ∧ AllM (args t) vs B1 ∧ n + nn t ≤ l ∧ ∀ v B2, (res t).p v B2 → R.p v B2) (hg : Gl X x := by rfl) (hdb : (x == ("__debug__" : Str)) = false := by decide)
    (hl : n ≤ l := by omega) (hs : starEach (e :: es) X.env = (false, eval e X.env) :: starEach es X.env := by rfl) (hpl : (backTo pos (starEach es X.env)).any (·.1) = false := by rfl) : BV X (.Call (.Name x p) (e :: es) [] pos) σ q B l R :=
  fun H j S Q g => by
    · refine w_call G hr (ba_cons (P := eqM (.ref q)) (he.bv (n := 0)) ha (Nat.le_of_eq (Nat.zero_add n)) hs H (l - n + j) (S.le (by omega)) _ fun vs B1 H1 x1 S1 pv => ?_) hg hdb hs hpl
      match vs, pv with
      | v :: us, pv =>
        have e1 : v = .ref q := pv.1
        subst e1
        obtain ⟨t, hp, hat, hle, hres⟩ := hA us B1 pv.2
        exact ⟨t, q, B1, j, us, rfl, S1.le (by omega), hat, hp, fun v B2 H2 x2 S2 r => g v B2 H2 (x1.trans x2) S2 (hres v B2 r)⟩
      | [], pv => exact pv.elim
end
end K7
/-! _law_machine. -/
namespace K7
set_option pp.maxSteps 300
open PySem PySem.Spec PyProof.Rows L2
theorem sb_join {X : Cx} {c : Expr} {body : List Stmt} {D : Ends} {σ : L2.St} {q : Addr} {B H : Hp} {pos : Pos} {n k : Nat} {p : Bool → Prop} (R : L2.St → Hp → Hp → Prop) (St : BSt q B H (n + k)) (hc : BT X c σ q B n p) (h1 : ∀ B1 H1, NxB q B H B1 H1 → BSt q B1 H1 k → wB X body { D with nx := fun σ' H' => ∃ B', R σ' B' H' } σ H1) (h2 : ∀ B1 H1, NxB q B H B1 H1 → BSt q B1 H1 k → R σ B1 H1) (kk : ∀ σ' B' H', R σ' B' H' → D.nx σ' H') : wS X (.If c body [] pos) D σ H :=
  sb_if St hc (fun _ B1 H1 x1 S1 => b_imp (h1 B1 H1 x1 S1) (fun _ _ ⟨B', r⟩ => kk _ B' _ r) (fun _ _ z => z) (fun _ _ z => z) fun _ _ z => z) fun _ B1 H1 x1 S1 => b_nil (kk _ B1 _ (h2 B1 H1 x1 S1))
theorem ev_pow {X : Cx} {a b : Expr} {σ : L2.St} {B : Hp} {pos : Pos} {i j : Int} (ha : EV X a σ B (dt X.K (.int i))) (hb : EV X b σ B (dt X.K (.int j))) (h : 0 ≤ j ∧ j ≤ 1000000 ∧ i.natAbs < 2 ^ 64) : EV X (.BinOp a .Pow b pos) σ B (dt X.K (.int (i ^ j.toNat))) :=
  ev_bin op_pow ha hb fun x y B1 _ px py => rv_now (.int _) fun H _ Q q => ⟨i, j, dp_i px, dp_i py, h, q⟩
abbrev sMc : List Str := ["_law_box_here", "_law_most_so", "_law_deeds_so", "_law_many_so", "_law_made", "_law_own", "_law_shows_so", "_law_k"]
theorem scMc : FnScope sMc ["_law_box_here", "_law_most_so", "_law_deeds_so"] (defScope (topS 51)) := ⟨rfl, rfl, rfl, by decide +kernel, rfl, by decide +kernel, by decide +kernel⟩
abbrev spMc (K : PySem.W.Frag) : Sp := spB (fun t : Nat × Nat => [dt K (eN t.1), dt K (eN t.2)]) (fun t => 1 ≤ t.1 ∧ t.1 ≤ 4 ∧ 1 ≤ t.2 ∧ t.2 ≤ 3) (fun _ => 100) fun t => exM (fun m : Mt => m.Ok ∧ m.n ≤ t.1 ∧ m.rows.length ≤ t.2) (matM K)
section
variable {P : Program} {w : World} {K : PySem.W.Frag} {mg : Str → Option Value} {base : Heap}
abbrev fxMc (P : Program) (w : World) (K : PySem.W.Frag) (mg : Str → Option Value) (base : Heap) (z : Fz) : Cx := fx P w K mg base sMc "_law_machine" (topS 51) z
set_option maxHeartbeats 4000000 in
theorem ok_mc (L : Bl mg) (G : Gf P w K mg base 1 "_law_take" (spTake K)) (Go : Gf P w K mg base 2 "_law_of" (spOf K)) (Gn : Gf P w K mg base 3 "_law_names" (spNm K)) (Gm : Gf P w K mg base 3 "_law_moves" (spMv K)) (D : Gd K mg "_law_machine" (topS 51) []) : Gf P w K mg base 4 "_law_machine" (spMc K) :=
  D.box (k := 3) scMc (fun _ => rfl) (fun _ _ _ _ _ _ us hl => match us, hl with | [_, _, _], _ => rfl) fun z vs q B j ⟨most, deeds⟩ ⟨hm1, hm4, hd1, hd3⟩ ha S hr => by
    obtain ⟨va, vb, rfl, h1, h2⟩ := allM2 ha
    have hm1 : 1 ≤ most := hm1
    have hm4 : most ≤ 4 := hm4
    have hd1 : 1 ≤ deeds := hd1
    have hd3 : deeds ≤ 3 := hd3
    have e1 := dp_i h1
    have e2 := dp_i h2
    dsimp only at e1 e2
    subst e1 e2
    have hr1 : Room 1 (fxMc P w K mg base z).A := hr.mono (by decide)
    have hr2 : Room 2 (fxMc P w K mg base z).A := hr.mono (by decide)
    have S : BSt q B z.H (1 + (41 + (58 + j))) := S.le (by show _ ≤ 100 + j; omega)
    refine b_cons (sb_parD 3 4 rfl scMc.nd (by decide) S (bv_one (k := 1) (pr := fun i => i < most) (rr := fun s => 1 ≤ s ∧ s ≤ most) (bv_call (X := fxMc P w K mg base z) (n := 0) most G hr1 (ev_var (P := eqM (.ref q)) 0 rfl rfl) (ba_cons (n := 0) (m := 0) (ev_var (P := dt K (eN most)) 1 rfl (.int _)).bv ba_nil (by decide)) (by omega) (by decide)) fun i hi => by omega) fun v3 d B1 H1 x1 S1 ⟨n, ⟨hn1, hn4⟩, p3⟩ hd => ?_)
    obtain rfl := dp_i p3
    have hdq : d ≠ q := fun e => S1.x.som (e ▸ hd)
    have b1d : B1 d = none := same_no S1.s hd
    have hd0 : z.H d = none := by
      cases e : z.H d with
      | none => rfl
      | some o => exact absurd hd (x1.som (by rw [e]; exact fun z => by cases z))
    have S2 : BSt q B1 (upd H1 d (.dK [])) (41 + (58 + j)) := S1.hid hdq b1d
    have x2 : NxB q B z.H B1 (upd H1 d (.dK [])) := nxb_hid x1 hd0 b1d
    have h2d : (upd H1 d (.dK [])) d = some (.dK []) := upd_same
    generalize upd H1 d (.dK []) = H2 at S2 x2 h2d
    refine b_cons (sb_for (X := fxMc P w K mg base z) (n := 41) (k := 58 + j) PassesOwn.never rfl (snb_list (κ := Str) (enc := eS) (ok := fun l : List Str => 1 ≤ l.length ∧ l.length ≤ deeds ∧ ∀ x ∈ l, NameOk x) (bv_callE (X := fxMc P w K mg base z) (n := 1) Gn hr (ev_var (P := eqM (.ref q)) 0 rfl rfl) (ba_cons (n := 1) (m := 0) (bv_one (k := 1) (pr := fun i => i < deeds) (rr := fun s => 1 ≤ s ∧ s ≤ deeds) (bv_call (X := fxMc P w K mg base z) (n := 0) deeds G hr1 (ev_var (P := eqM (.ref q)) 0 rfl rfl) (ba_cons (n := 0) (m := 0) (ev_var (P := dt K (eN deeds)) 2 rfl (.int _)).bv ba_nil (by decide)) (by omega) (by decide)) fun i hi => by omega) ba_nil (by decide))
        (fun vs B2 hv => by
          obtain ⟨v, rfl, t, ht, pv⟩ := allM1 hv
          exact ⟨t, by omega, ⟨pv, True.intro⟩, by omega, fun v B3 ⟨l, ⟨hl1, hl2⟩, p⟩ => ⟨l, ⟨by omega, by omega, hl2⟩, p⟩⟩)))
      S2 (fun its i σ' B' H' => ∃ o5 kvs rows, σ' = [some (.ref q), some (.int (most : Int)), some (.int (deeds : Int)), some (.int (n : Int)), some (.ref d), o5, none, none] ∧ H' d = some (.dK kvs) ∧ dkAt K (dRows rows) kvs B' ∧ (rows.map (·.1)).Nodup ∧ (∀ r ∈ rows, NameOk r.1) ∧ (∀ r ∈ rows, RowOk n r.2) ∧ rows.length ≤ i ∧ (1 ≤ i → 1 ≤ rows.length) ∧ NxB q B z.H B' H' ∧ BSt q B' H' (12 * (its.length - i) + (5 + j)) ∧ B' d = none)
      (fun its B3 H3 ol x3 S3 => ⟨none, [], [], rfl, x3.h _ _ hdq h2d, .nil, .nil, (fun _ h => by cases h), (fun _ h => by cases h), Nat.le_refl _, (fun h => by omega), x2.trans x3, S3.le (by omega), x3.off (by rw [h2d]; exact fun z => by cases z) b1d⟩)
      (fun its i it σ' B' H' B3 H3 v ol hi ⟨o5, kvs, rows, e, hkd, hdk, hnd, hnm, hro, hlen, hpos, x', S', bd⟩ x3 hv => ?_) fun its σ' B' H' ol s1 s2 ⟨o5, kvs, rows, e, hkd, hdk, hnd, hnm, hro, hlen, hpos, x', S', bd⟩ => ?_)
    · subst e
      obtain rfl := dp_s hv
      have hi' : i < its.length := (List.getElem?_eq_some_iff.mp hi).1
      have hmem : it ∈ its := List.mem_of_getElem? hi
      refine ⟨_, tj_name 5 scMc.nd, ?_⟩
      have S3 : BSt q B3 H3 (12 + (12 * (its.length - (i + 1)) + (5 + j))) := (S'.nx x3).le (by omega)
      have hkd3 := x3.h _ _ hkd
      have bd3 := x3.off hkd bd
      have hkl : kvs.length < 1000 := by
        have := congrArg List.length (dk_keys hdk)
        rw [List.length_map, List.length_map, List.length_map] at this
        omega
      refine b_cons (sb_put 4 5 hr.u1 S3 rfl rfl hkd3 hdq hkl (bv_call (X := fxMc P w K mg base z) (n := 0) n Gm hr (ev_var (P := eqM (.ref q)) 0 rfl rfl) (ba_cons (n := 0) (m := 0) (ev_var (P := dt K (eN n)) 3 rfl (.int _)).bv ba_nil (by decide)) (by omega) (by decide)) fun v4 B4 H4 x4 S4 ⟨l, hl, p4⟩ => ?_)
      have bd4 := x4.off (by rw [hkd3]; exact fun z => by cases z) bd3
      refine b_nil ⟨B4, x4.b, same_over S4.s bd4, _, putK kvs (.inr it) v4, putRw rows it l, rfl, upd_same, dk_put p4 (dk_same (x3.b.trans x4.b) hdk), putRw_nd hnd, fun r hr => ?_, fun r hr => ?_, ?_, fun _ => putRw_len.2, nxb_hid ((x'.trans x3.bx).trans x4) hd0 bd4, S4.hid hdq bd4, bd4⟩
      · rcases putRw_mem hr with h | h
        · exact hnm r h
        · rw [h]
          exact ol.2.2 it hmem
      · rcases putRw_mem hr with h | h
        · exact hro r h
        · rw [h]
          exact hl
      · have := (putRw_len (rows := rows) (x := it) (l := l)).1
        omega
    · subst e
      have S' : BSt q B' H' (5 + j) := S'.le (by omega)
      refine b_cons (s_set (P := shM ((List.range n).map fun i : Nat => (i : Int))) 6 scMc.nd S'.s (ev_tupRgF rfl L.tuple L.range (ev_var (P := dt K (eN n)) 3 rfl (.int _)) (by omega)) fun v6 B4 H4 x4 p6 => ?_)
      have hkd4 := x4.h _ _ hkd
      have bd4 := x4.off hkd bd
      have x4' := x'.trans x4.bx
      have hdk4 := dk_same x4.b hdk
      refine b_cons (sb_join (X := fxMc P w K mg base z) (n := 1) (k := 4 + j) (fun σ' B' H' => ∃ (sh : List Int) (v7 : V), sh.length = n ∧ (shM sh).p v7 B' ∧ σ' = [some (.ref q), some (.int (most : Int)), some (.int (deeds : Int)), some (.int (n : Int)), some (.ref d), o5, some v7, none] ∧ NxB q B4 H4 B' H' ∧ BSt q B' H' j) ((S'.nx x4).le (by omega)) (bt_eqN (bv_call (X := fxMc P w K mg base z) (n := 0) 3 G hr1 (ev_var (P := eqM (.ref q)) 0 rfl rfl) (ba_cons (n := 0) (m := 0) ev_int.bv ba_nil (by decide)) (by decide) (by decide))) (fun B5 H5 x5 S5 => ?_) (fun B5 H5 x5 S5 => ⟨_, v6, by rw [List.length_map, List.length_range], (shM _).mono x5.b p6, rfl, x5, S5.le (by omega)⟩) fun σ' B5 H5 ⟨sh, v7, hsl, p7, e, x5, S5⟩ => ?_)
      · refine b_cons (sb_set 6 scMc.nd (n := 4) (k := j) S5 (bv_tupleF (pr := fun l => l.length = n) L.tuple (bv_lcM (X := fxMc P w K mg base z) (own := [("_law_k", 7)]) (n := 1) (L := 4) (n0 := 0) (pk := fun _ => True) (enc := eI) rfl scMc.nd (blkOk_by (N := sMc) (sc := defScope (topS 51)) (by decide +kernel)) (sn_range (n := n) L.range (ev_var (P := dt K (eN n)) 3 rfl (.int _)) (by omega)).bv (fun its h => by rw [h, List.length_range]; omega) (by decide)
          (fun its h it hit B' s u v hv => ⟨[some (.ref q), some (.int (most : Int)), some (.int (deeds : Int)), some (.int (n : Int)), some (.ref d), o5, some v6, some v], rfl, fun zz H' s' => tj_name 7 scMc.nd, fun zz => BV.imp (R := exD K (fun _ : Int => True) eI) (bv_call (X := bx (fxMc P w K mg base z) _ zz) (n := 0) [dt K (eI 0), dt K (eI 0), dt K (eI 1), dt K (eI (-7)), dt K (eI (10 ^ 30))] Go hr2 (ev_var (P := eqM (.ref q)) 0 rfl rfl) (ba_cons (n := 0) (m := 0) (EV.ls (ev_lst (X := bx (fxMc P w K mg base z) _ zz) (ds := [eI 0, eI 0, eI 1, eI (-7), eI (10 ^ 30)]) (EA.data (Ps := [dt K (eI 0), dt K (eI 0), dt K (eI 1), dt K (eI (-7)), dt K (eI (10 ^ 30))]) (ea_cons ev_int (ea_cons ev_int (ea_cons ev_int (ea_cons (ev_neg ev_int) (ea_cons (ev_pow ev_int ev_int ⟨by decide, by decide, by decide⟩) ea_nil))))) rfl))).bv ba_nil (by decide)) ⟨by simp, by simp⟩ (by decide)) fun v B1 _ p => ?_⟩)
          (fun its l h1 h2 h3 => by rw [h2, h1, List.length_range]) (by decide))) fun v7 B6 H6 x6 S6 ⟨sh, hsl, p7⟩ => ?_)
        · obtain ⟨Q, hQ, p⟩ := p
          simp only [List.mem_cons, List.not_mem_nil, or_false] at hQ
          rcases hQ with rfl | rfl | rfl | rfl | rfl
          · exact ⟨_, True.intro, p⟩
          · exact ⟨_, True.intro, p⟩
          · exact ⟨_, True.intro, p⟩
          · exact ⟨_, True.intro, p⟩
          · exact ⟨_, True.intro, p⟩
        · exact b_nil ⟨B6, sh, v7, hsl, p7, rfl, x5.trans x6, S6⟩
      · subst e
        have hkd5 := x5.h _ _ hdq hkd4
        have bd5 := x5.off (by rw [hkd4]; exact fun z => by cases z) bd4
        refine b_cons (s_frzK hkd5 fun o => ?_)
        have x6 : NxB q B z.H (upd B5 d (.frz o (.dK kvs))) (upd H5 d (.frz o (.dK kvs))) := nxb_see (nxb_hid (x4'.trans x5) hd0 bd5) hd0 bd5 upd_same
        have S6 := bst_see (S5.hid (o := .frz o (.dK kvs)) hdq bd5) x6 S.x.som S.u
        have hsee : Same B5 (upd B5 d (.frz o (.dK kvs))) := same_new bd5
        refine (sb_retD (n := 0) (k := j) x6 (S6.le (by omega)) (EV.imp (R := exM (fun m : Mt => m.Ok ∧ m.n ≤ most ∧ m.rows.length ≤ deeds) (matM K)) (ev_tupM (X := fxMc P w K mg base z) (Ps := matPs K ⟨n, rows, sh⟩) (ea_cons (ev_var (P := dt K (eN n)) 3 rfl (.int _)) (ea_cons (ev_var (P := fdM K rows) 4 rfl ⟨d, o, kvs, rfl, upd_same, dk_same (x5.b.trans hsee) hdk4⟩) (ea_cons (ev_var (P := shM sh) 6 rfl ((shM sh).mono hsee p7)) ea_nil))) (show 3 ≤ 100000 by decide)) fun v B1 _ p => ⟨⟨n, rows, sh⟩, ⟨⟨hn1, by show n ≤ 4; omega, hnd, hnm, hro, hsl, ?_, ?_⟩, hn4, ?_⟩, p⟩).bv)
        · exact hpos ol.1
        · show rows.length ≤ 5
          have := ol.2.1
          omega
        · show rows.length ≤ deeds
          have := ol.2.1
          omega
end
end K7
/-! Dicts displayed; the known machines. -/
namespace K7
set_option pp.maxSteps 300
open PySem PySem.Spec PyProof.Rows L2
def EVP (X : Cx) (trs : List (TE × TE)) (σ : L2.St) (B : Hp) (rows : List (Str × PyData)) : Prop := ∀ H, Same B H → ∀ Q : List (V × V) → Hp → Prop, (∀ kvs B1 H1, Nx B H B1 H1 → dkAt X.K rows kvs B1 → Q (kvs.map fun kv => (kV kv.1, kv.2)) H1) → tPairs trs σ H Q
section
variable {X : Cx} {k v e : Expr} {keys : List (Option Expr)} {values : List Expr} {trs : List (TE × TE)} {σ : L2.St} {B B1 H H1 : Hp} {rows : List (Str × PyData)} {p pos : Pos}
theorem evp_nil : EVP X [] σ B [] := fun H s Q q => q [] B H (Nx.refl s) .nil
theorem EVP.mono {B' : Hp} (s : Same B B') (h : EVP X trs σ B rows) : EVP X trs σ B' rows := fun H t Q q => h H (s.trans t) Q fun kvs B1 H1 x p => by
  obtain ⟨B2, y, z⟩ := x.more s t
  exact q kvs B2 H1 y (dk_same z p)
theorem evp_cons {x : Str} {d : PyData} (hk : EV X k σ B (dt X.K (eS x))) (hv : EV X v σ B (dt X.K d)) (hr : EVP X trs σ B rows) : EVP X ((wE X k, wE X v) :: trs) σ B ((x, d) :: rows) := fun H s Q q =>
  hk H s _ fun u B1 H1 x1 pu => EV.mono x1.b hv H1 x1.s _ fun w B2 H2 x2 pw => EVP.mono (x1.b.trans x2.b) hr H2 x2.s _ fun kvs B3 H3 x3 hk3 => by
    obtain rfl := dp_s pu
    exact q ((.inr x, w) :: kvs) B3 H3 (x1.trans (x2.trans x3)) (.cons ⟨rfl, dp_same x3.b pw⟩ hk3)
theorem nx_under {r : Addr} {o o' : HO} (hr : H r = none) (s : Same B H) (x : Nx B (upd H r o) B1 H1) : Nx B H B1 (upd H1 r o') := by
  have br : B r = none := same_no s hr
  have b1r : B1 r = none := x.off upd_same br
  refine ⟨fun a u e => ?_, x.b, same_over x.s b1r, fun a h => ?_, fun a ps h => ?_⟩
  · have ha : a ≠ r := fun z => by rw [z, hr] at e; cases e
    rw [upd_ne ha]
    exact x.h a u (by rw [upd_ne ha]; exact e)
  · have ha : a ≠ r := fun z => h (z ▸ hr)
    exact x.o a (by rw [upd_ne ha]; exact h)
  · by_cases ha : a = r
    · subst ha
      rw [b1r]
      exact fun z => by cases z
    · exact x.n a ps (by rw [upd_ne ha]; exact h)
theorem ev_disp {rw' : List (Str × List Nat)} (hp : PPs X pos keys values trs) (h : EVP X trs σ B (dRows rw')) (nd : (rw'.map (·.1)).Nodup) (hl15 : rw'.length ≤ 15) (hall : keys.all (·.isSome) = true := by rfl) (hl : keys.length = values.length := by rfl) (h0 : keys ≠ [] := by exact fun z => by cases z) (h15 : keys.length ≤ 15 := by decide) : EV X (.Dict keys values pos) σ B (fdM X.K rw') :=
  fun H s Q q => e_frzK (e_of (pe_disp hp hall hl h0 h15) fun r hr => h (upd H r (.dK [])) (same_over s (same_no s hr)) _ fun kvs B1 H1 x1 hk => by
    have hlen := congrArg List.length (dk_keys hk)
    rw [List.length_map, List.length_map, List.length_map] at hlen
    have ek : mergeK [] kvs = kvs := mergeK_nodup kvs [] (by
      rw [List.nil_append, dk_keys hk]
      have := inr_nodup nd
      rw [List.map_map] at this
      rw [List.map_map]
      exact this)
    refine ⟨x1.h _ _ upd_same, kvs, rfl, by omega, r, mergeK [] kvs, rfl, upd_same, fun o => ?_⟩
    rw [ek]
    have b1r : B1 r = none := x1.off upd_same (same_no s hr)
    have x2 : Nx B H B1 (upd H1 r (.dK kvs)) := nx_under hr s x1
    have x3 := (x2.hid (o := .frz o (.dK kvs)) hr b1r).see hr b1r upd_same
    exact q _ _ _ x3 ⟨r, o, kvs, rfl, upd_same, dk_same (same_new b1r) hk⟩)
/-- dict([..]), standing still from now on -/
theorem ev_dictF {rw' : List (Str × List Nat)} (hc : X.calm = true) (hm : X.mg "dict" = none) (h : EV X e σ B (dt X.K (.list ((dRows rw').map fun r => .tuple [eS r.1, r.2])))) (nd : (rw'.map (·.1)).Nodup) (hg : Gl X "dict" := by rfl) (he : starEach [e] X.env = (false, eval e X.env) :: starEach [] X.env := by rfl) :
    EV X (.Call (.Name "dict" p) [e] [] pos) σ B (fdM X.K rw') :=
  fun H s Q q => e_frzK (e_of (pe_callTy (call_dictP hc) hg hm (by decide +kernel) (pa_cons pe_w pa_nil he) (by decide) (by decide) he rfl) (h H s _ fun v B1 H1 x1 g => by
    obtain ⟨a, xs, rfl, hl, hd⟩ := dp_l g
    obtain ⟨ps, kvs, rfl, g1, g2⟩ := dp_pairs hd
    refine ⟨a, ps, kvs, rfl, same_l x1.s hl, paired_same x1.s g1, fun d hr => ?_⟩
    have ek : mergeK [] kvs = kvs := mergeK_nodup kvs [] (by
      rw [List.nil_append, dk_keys g2]
      have := inr_nodup nd
      rw [List.map_map] at this
      rw [List.map_map]
      exact this)
    rw [ek]
    refine ⟨d, kvs, rfl, upd_same, fun o => ?_⟩
    have b1d : B1 d = none := same_no x1.s hr
    have hd0 : H d = none := same_no x1.h hr
    have x3 := ((x1.hid (o := .dK kvs) hd0 b1d).hid (o := .frz o (.dK kvs)) hd0 b1d).see hd0 b1d upd_same
    exact q _ _ _ x3 ⟨d, o, kvs, rfl, upd_same, dk_same (same_new b1d) g2⟩))
end
end K7
/-! The known machines; tags. -/
namespace K7
set_option pp.maxSteps 300
open PySem PySem.Spec PyProof.Rows L2
abbrev lampT : Mt := ⟨2, [("on", [1, 1]), ("off", [0, 0]), ("flip", [1, 0])], [0, 1]⟩
abbrev copT : Mt := ⟨4, [("set", [2, 3, 2, 3]), ("clear", [0, 1, 0, 1]), ("copy", [0, 0, 3, 3])], [0, 1, 2, 3]⟩
abbrev lampsT : Mt := ⟨4, [("ona", [2, 3, 2, 3]), ("onb", [1, 1, 3, 3]), ("offa", [0, 1, 0, 1]), ("offb", [0, 0, 2, 2]), ("dark", [0, 0, 0, 0])], [0, 1, 2, 3]⟩
abbrev dialT (m : Nat) : Mt := ⟨m, [("up", (List.range m).map fun k => min (k + 1) (m - 1)), ("down", (List.range m).map fun k => k - 1)], (List.range m).map fun i : Nat => (i : Int)⟩
theorem can_of {x : Str} (h : (x.cps.all fun c => decide (c < 0x110000)) = true) : PyData.canLay0 (.str x) = true := by
  simp only [PyData.canLay0]
  exact h
def okB (m : Mt) : Bool := decide (1 ≤ m.n) && decide (m.n ≤ 4) && decide (m.rows.map (·.1)).Nodup && (m.rows.all fun r => decide (r.1 ≠ look) && (r.1.cps.all fun c => decide (c < 0x110000)) && decide (r.1.length ≤ 8)) && (m.rows.all fun r => decide (r.2.length = m.n) && r.2.all fun x => decide (x < m.n)) && decide (m.sh.length = m.n) && decide (1 ≤ m.rows.length) && decide (m.rows.length ≤ 5)
theorem okB_ok {m : Mt} (h : okB m = true) : m.Ok := by
  unfold okB at h
  simp only [Bool.and_eq_true, decide_eq_true_eq, List.all_eq_true] at h
  obtain ⟨⟨⟨⟨⟨⟨⟨h1, h2⟩, h3⟩, h4⟩, h5⟩, h6⟩, h7⟩, h8⟩ := h
  exact ⟨h1, h2, h3, fun r hr => ⟨(h4 r hr).1.1, can_of (h4 r hr).1.2, (h4 r hr).2⟩, fun r hr => ⟨(h5 r hr).1, (h5 r hr).2⟩, h6, h7, h8⟩
theorem lamp_ok : lampT.Ok := okB_ok (by decide +kernel)
theorem cop_ok : copT.Ok := okB_ok (by decide +kernel)
theorem lamps_ok : lampsT.Ok := okB_ok (by decide +kernel)
theorem dial3_ok : (dialT 3).Ok := okB_ok (by decide +kernel)
theorem dial4_ok : (dialT 4).Ok := okB_ok (by decide +kernel)
abbrev spCst (K : PySem.W.Frag) (m : Mt) : Sp := spD (fun _ : Unit => []) (fun _ => True) fun _ => matM K m
section
variable {P : Program} {w : World} {K : PySem.W.Frag} {mg : Str → Option Value} {base : Heap}
theorem scLp : FnScope [] [] (defScope (topS 52)) := ⟨rfl, rfl, rfl, by decide +kernel, rfl, by decide +kernel, by decide +kernel⟩
theorem scCp : FnScope [] [] (defScope (topS 54)) := ⟨rfl, rfl, rfl, by decide +kernel, rfl, by decide +kernel, by decide +kernel⟩
theorem scLs : FnScope ["_law_made"] [] (defScope (topS 55)) := ⟨rfl, rfl, rfl, by decide +kernel, rfl, by decide +kernel, by decide +kernel⟩
/-- a written tuple of numbers -/
theorem ev_nums {X : Cx} {σ : L2.St} {B : Hp} {es : List Expr} {p : Pos} {kk : Nat} (l : List Nat) (h : es.all isInt = true) (h2 : es.map intOf = l.map fun i : Nat => (i : Int)) (hl : l.length ≤ 1000) : EV X (.Tuple es kk p) σ B (dt X.K (eTN l)) := by
  have h3 : (es.map fun e => eI (intOf e)) = l.map eN := by
    have := congrArg (List.map eI) h2
    rw [List.map_map, List.map_map] at this
    exact this
  have := ea_ints (X := X) (σ := σ) (B := B) es h
  rw [h3] at this
  exact ev_tup this (by rw [List.length_map]; omega)
theorem ev_numsI {X : Cx} {σ : L2.St} {B : Hp} {es : List Expr} {p : Pos} {kk : Nat} (l : List Int) (h : es.all isInt = true) (h2 : es.map intOf = l) (hl : l.length ≤ 1000) : EV X (.Tuple es kk p) σ B (dt X.K (eTI l)) := by
  have h3 : (es.map fun e => eI (intOf e)) = l.map eI := by
    have := congrArg (List.map eI) h2
    rw [List.map_map] at this
    exact this
  have := ea_ints (X := X) (σ := σ) (B := B) es h
  rw [h3] at this
  exact ev_tup this (by rw [List.length_map]; omega)
theorem ev_numsF {X : Cx} {σ : L2.St} {B : Hp} {es : List Expr} {p : Pos} {kk : Nat} (l : List Int) (h : es.all isInt = true) (h2 : es.map intOf = l) (hl : l.length ≤ 1000) : EV X (.Tuple es kk p) σ B (shM l) := by
  have := ea_ints (X := X) (σ := σ) (B := B) es h
  rw [List.map_map] at this
  have e : (es.map ((dt X.K) ∘ fun e => eI (intOf e))) = l.map fun i => dt X.K (eI i) := by rw [← h2, List.map_map]; rfl
  rw [e] at this
  exact ev_tupF this (by omega)
def isKey : Option Expr → Bool
  | some (.Constant (.str _) _ _) => true
  | _ => false
def keyOf : Option Expr → Str
  | some (.Constant (.str x) _ _) => x
  | _ => Str.ofString ""
def isRow : Expr → Bool
  | .Tuple es _ _ => es.all fun e => isInt e && decide (0 ≤ intOf e)
  | _ => false
def rowOf : Expr → List Nat
  | .Tuple es _ _ => es.map fun e => (intOf e).toNat
  | _ => []
theorem ev_row {X : Cx} {σ : L2.St} {B : Hp} : ∀ v : Expr, isRow v = true → (rowOf v).length ≤ 1000 → EV X v σ B (dt X.K (eTN (rowOf v)))
  | .Tuple es kk p, h, hl => by
    have h : (es.all fun e => isInt e && decide (0 ≤ intOf e)) = true := h
    rw [List.all_eq_true] at h
    refine ev_nums _ (List.all_eq_true.mpr fun e he => (Bool.and_eq_true _ _ ▸ h e he).1) ?_ hl
    show _ = (es.map fun e => (intOf e).toNat).map fun i : Nat => (i : Int)
    rw [List.map_map]
    refine List.map_congr_left fun e he => ?_
    have := of_decide_eq_true (Bool.and_eq_true _ _ ▸ h e he).2
    exact (Int.toNat_of_nonneg this).symm
theorem pps_gen {X : Cx} {σ : L2.St} {B : Hp} {pos : Pos} : ∀ (keys : List (Option Expr)) (values : List Expr), keys.length = values.length → keys.all isKey = true → values.all isRow = true → (∀ v ∈ values, (rowOf v).length ≤ 1000) → ∃ trs, PPs X pos keys values trs ∧ EVP X trs σ B (dRows (keys.zipWith (fun k v => (keyOf k, rowOf v)) values))
  | [], [], _, _, _, _ => ⟨[], pps_nil, evp_nil⟩
  | k :: ks, v :: vs, hl, hk, hv, hz => by
    rw [List.all_cons, Bool.and_eq_true] at hk hv
    obtain ⟨trs, h1, h2⟩ := pps_gen (X := X) (σ := σ) (B := B) (pos := pos) ks vs (by simpa using hl) hk.2 hv.2 fun v hm => hz v (List.mem_cons_of_mem _ hm)
    match k, hk.1 with
    | some (.Constant (.str x) kk p), _ => exact ⟨_, pps_cons pe_w pe_w h1, evp_cons ev_str (ev_row v hv.1 (hz v List.mem_cons_self)) h2⟩
  | [], _ :: _, hl, _, _, _ => by cases hl
  | _ :: _, [], hl, _, _, _ => by cases hl
theorem ev_dispC {X : Cx} {σ : L2.St} {B : Hp} {pos : Pos} {keys : List (Option Expr)} {values : List Expr} (rows : List (Str × List Nat)) (hk : keys.all isKey = true) (hv : values.all isRow = true) (hl : keys.length = values.length) (hr : keys.zipWith (fun k v => (keyOf k, rowOf v)) values = rows) (hz : ∀ v ∈ values, (rowOf v).length ≤ 1000) (nd : (rows.map (·.1)).Nodup) (h0 : keys ≠ []) (h15 : keys.length ≤ 15) : EV X (.Dict keys values pos) σ B (fdM X.K rows) := by
  obtain ⟨trs, h1, h2⟩ := pps_gen (X := X) (σ := σ) (B := B) (pos := pos) keys values hl hk hv hz
  rw [hr] at h2
  refine ev_disp h1 h2 nd ?_ (List.all_eq_true.mpr fun k hm => ?_) hl h0 h15
  · rw [← hr, List.length_zipWith]
    omega
  · have := List.all_eq_true.mp hk k hm
    cases k with
    | none => exact absurd this (by simp [isKey])
    | some => rfl
theorem se_tup {es r : List Expr} {kk : Nat} {p : Pos} {env : Env} : starEach (.Tuple es kk p :: r) env = (false, eval (.Tuple es kk p) env) :: starEach r env := rfl
theorem se_dict {ks : List (Option Expr)} {vs : List Expr} {r : List Expr} {p : Pos} {env : Env} : starEach (.Dict ks vs p :: r) env = (false, eval (.Dict ks vs p) env) :: starEach r env := rfl
theorem ev_matC {X : Cx} {σ : L2.St} {B : Hp} {p1 p2 p3 pos : Pos} {k1 k2 k3 : Nat} {keys : List (Option Expr)} {values es : List Expr} (m : Mt) (hk : keys.all isKey = true) (hv : values.all isRow = true) (hl : keys.length = values.length) (hr : keys.zipWith (fun k v => (keyOf k, rowOf v)) values = m.rows) (hz : ∀ v ∈ values, (rowOf v).length ≤ 1000) (nd : (m.rows.map (·.1)).Nodup) (h0 : keys ≠ []) (h15 : keys.length ≤ 15) (h : es.all isInt = true) (h2 : es.map intOf = m.sh) (h3 : m.sh.length ≤ 1000) : EV X (.Tuple [.Constant (.int (m.n : Int)) k1 p1, .Dict keys values p2, .Tuple es k2 p3] k3 pos) σ B (matM X.K m) :=
  ev_tupM (ea_cons ev_int (ea_cons (ev_dispC m.rows hk hv hl hr hz nd h0 h15) (ea_cons (ev_numsF m.sh h h2 h3) ea_nil (hs := se_tup)) (hs := se_dict))) (show 3 ≤ 100000 by decide)
/-- return a written machine -/
theorem s_retMatC {X : Cx} {σ : L2.St} {B H : Hp} {D : Ends} {p1 p2 p3 p4 pos : Pos} {k1 k2 k3 : Nat} {keys : List (Option Expr)} {values es : List Expr} (m : Mt) (sb : Same B H) (hk : keys.all isKey = true) (hv : values.all isRow = true) (hl : keys.length = values.length) (hr : keys.zipWith (fun k v => (keyOf k, rowOf v)) values = m.rows) (hz : (values.all fun v => decide ((rowOf v).length ≤ 1000)) = true) (nd : (m.rows.map (·.1)).Nodup) (h0 : keys ≠ []) (h15 : keys.length ≤ 15) (h : es.all isInt = true) (h2 : es.map intOf = m.sh) (h3 : m.sh.length ≤ 1000)
    (hD : ∀ v H', (∃ B', Nx B H B' H' ∧ (matM X.K m).p v B') → D.rt v H') : wS X (.Return (some (.Tuple [.Constant (.int (m.n : Int)) k1 p1, .Dict keys values p2, .Tuple es k2 p3] k3 p4)) pos) D σ H :=
  s_ret sb (ev_matC m hk hv hl hr (fun v hm => of_decide_eq_true (List.all_eq_true.mp hz v hm)) nd h0 h15 h h2 h3) fun v B1 H1 x1 p => hD v H1 ⟨B1, x1, p⟩
theorem s_setDispC {X : Cx} {σ : L2.St} {B H : Hp} {D : Ends} {p1 p2 pos : Pos} {x : Str} {keys : List (Option Expr)} {values : List Expr} (i : Nat) (rows : List (Str × List Nat)) (hnd : X.N.Nodup) (sb : Same B H) (hk : keys.all isKey = true) (hv : values.all isRow = true) (hl : keys.length = values.length) (hr : keys.zipWith (fun k v => (keyOf k, rowOf v)) values = rows) (hz : (values.all fun v => decide ((rowOf v).length ≤ 1000)) = true) (nd : (rows.map (·.1)).Nodup) (h0 : keys ≠ []) (h15 : keys.length ≤ 15)
    (k : ∀ v B1 H1, Nx B H B1 H1 → (fdM X.K rows).p v B1 → D.nx (σ.set i (some v)) H1) (hN : X.N[i]? = some x := by rfl) (hx : Loc X.env.scope x := by first | exact .inl rfl | exact .inr rfl) (hf : X.fn x = true ∨ X.env.scope.names.lookup x = some .local := by first | exact .inl rfl | exact .inr rfl) : wS X (.Assign [.Name x p1] (.Dict keys values p2) pos) D σ H :=
  s_set i hnd sb (ev_dispC rows hk hv hl hr (fun v hm => of_decide_eq_true (List.all_eq_true.mp hz v hm)) nd h0 h15) k hN hx rfl hf
theorem ok_lamp (D : Gd K mg "_law_lamp" (topS 52) []) : Gf P w K mg base 1 "_law_lamp" (spCst K lampT) :=
  D.pure scLp (fun _ => rfl) (fun _ _ _ _ _ _ us hl => match us, hl with | [], _ => rfl) fun z vs B _ _ ha sb hr => by
    have := allM0 ha
    subst this
    exact b_cons (s_retMatC lampT sb rfl rfl rfl rfl (by decide) (by decide +kernel) (fun z => by cases z) (by decide) rfl rfl (by decide) fun _ _ h => h)
theorem ok_cop (D : Gd K mg "_law_copier" (topS 54) []) : Gf P w K mg base 1 "_law_copier" (spCst K copT) :=
  D.pure scCp (fun _ => rfl) (fun _ _ _ _ _ _ us hl => match us, hl with | [], _ => rfl) fun z vs B _ _ ha sb hr => by
    have := allM0 ha
    subst this
    exact b_cons (s_retMatC copT sb rfl rfl rfl rfl (by decide) (by decide +kernel) (fun z => by cases z) (by decide) rfl rfl (by decide) fun _ _ h => h)
theorem ok_lamps (D : Gd K mg "_law_lamps" (topS 55) []) : Gf P w K mg base 1 "_law_lamps" (spCst K lampsT) :=
  D.pure scLs (fun _ => rfl) (fun _ _ _ _ _ _ us hl => match us, hl with | [], _ => rfl) fun z vs B _ _ ha sb hr => by
    have := allM0 ha
    subst this
    refine b_cons (s_setDispC 0 lampsT.rows scLs.nd sb rfl rfl rfl rfl (by decide) (by decide +kernel) (fun z => by cases z) (by decide) fun v B1 H1 x1 p => ?_)
    exact b_cons (s_retD x1 (ev_tupM (X := fx P w K mg base ["_law_made"] "_law_lamps" (topS 55) z) (Ps := matPs K lampsT) (ea_cons ev_int (ea_cons (ev_var (P := fdM K lampsT.rows) 0 rfl p) (ea_cons (ev_numsF _ rfl rfl (by decide)) ea_nil))) (show 3 ≤ 100000 by decide)))
end
end K7
/-! _law_dial, _law_tags, _law_known, _law_some_machine. -/
namespace K7
set_option pp.maxSteps 300
open PySem PySem.Spec PyProof.Rows L2
abbrev sDi : List Str := ["_law_many_so", "_law_up_so", "_law_down_so", "_law_k"]
theorem scDi : FnScope sDi ["_law_many_so"] (defScope (topS 53)) := ⟨rfl, rfl, rfl, by decide +kernel, rfl, by decide +kernel, by decide +kernel⟩
abbrev spDi (K : PySem.W.Frag) : Sp := spD (fun m : Nat => [dt K (eN m)]) (fun m => 1 ≤ m ∧ m ≤ 4) fun m => matM K (dialT m)
abbrev sTg : List Str := ["_law_mat", "_law_own"]
theorem scTg : FnScope sTg ["_law_mat"] (defScope (topS 58)) := ⟨rfl, rfl, rfl, by decide +kernel, rfl, by decide +kernel, by decide +kernel⟩
abbrev spTg (K : PySem.W.Frag) : Sp := spD (fun m : Mt => [matM K m]) (fun m => m.Ok) fun m => dt K (eTS m.mac.nms)
abbrev sKn : List Str := ["_law_box_here", "_law_mat", "_law_tags_so", "_law_kept_so", "_law_own"]
theorem scKn : FnScope sKn ["_law_box_here"] (defScope (topS 56)) := ⟨rfl, rfl, rfl, by decide +kernel, rfl, by decide +kernel, by decide +kernel⟩
abbrev spKn (K : PySem.W.Frag) : Sp := spB (fun _ : Unit => []) (fun _ => True) (fun _ => 20) fun _ => exM Mt.Ok (matM K)
abbrev sSm : List Str := ["_law_box_here", "_law_most_so", "_law_deeds_so"]
theorem scSm : FnScope sSm ["_law_box_here", "_law_most_so", "_law_deeds_so"] (defScope (topS 57)) := ⟨rfl, rfl, rfl, by decide +kernel, rfl, by decide +kernel, by decide +kernel⟩
abbrev spSm (K : PySem.W.Frag) : Sp := spB (fun t : Nat × Nat => [dt K (eN t.1), dt K (eN t.2)]) (fun t => 1 ≤ t.1 ∧ t.1 ≤ 4 ∧ 1 ≤ t.2 ∧ t.2 ≤ 3) (fun _ => 101) fun _ => exM Mt.Ok (matM K)
theorem ev_str1 {X : Cx} {e : Expr} {σ : L2.St} {B : Hp} {p pos : Pos} {x : Str} (hm : X.mg "str" = none) (ha : EV X e σ B (dt X.K (eS x))) (hg : Gl X "str" := by rfl) (he : starEach [e] X.env = (false, eval e X.env) :: starEach [] X.env := by rfl) : EV X (.Call (.Name "str" p) [e] [] pos) σ B (dt X.K (eS x)) :=
  ev_bty SkE.call_str_str hm (by decide +kernel) (ea_cons ha ea_nil he) (fun vs B1 _ h => by
    obtain ⟨u, rfl, g⟩ := allM1 h
    rw [dp_s g]
    exact rc_now (.str _) fun H s Q g => ⟨x, rfl, g⟩) hg (by decide) (by decide) he rfl
section
variable {P : Program} {w : World} {K : PySem.W.Frag} {mg : Str → Option Value} {base : Heap}
abbrev fxDi (P : Program) (w : World) (K : PySem.W.Frag) (mg : Str → Option Value) (base : Heap) (z : Fz) : Cx := fx P w K mg base sDi "_law_dial" (topS 53) z
set_option maxHeartbeats 1000000 in
theorem ok_di (L : Bl mg) (D : Gd K mg "_law_dial" (topS 53) []) : Gf P w K mg base 1 "_law_dial" (spDi K) :=
  D.pure (k := 0) scDi (fun _ => rfl) (fun _ _ _ _ _ _ us hl => match us, hl with | [_], _ => rfl) fun z vs B m hm ha sb hr => by
    obtain ⟨va, rfl, h1⟩ := allM1 ha
    obtain rfl := dp_i h1
    refine b_cons (s_par (P1 := dt K (eLN ((List.range m).map fun k => min (k + 1) (m - 1)))) (P2 := dt K (eLN ((List.range m).map fun k => k - 1))) 1 2 rfl scDi.nd (by decide) sb (ea_cons (EV.is (ev_lcM (X := fxDi P w K mg base z) (own := [("_law_k", 3)]) (its := List.range m) (g := fun k => eN (min (k + 1) (m - 1))) rfl scDi.nd (blkOk_by (N := sDi) (sc := defScope (topS 53)) (by decide +kernel)) (sn_range (n := m) L.range (ev_var (P := dt K (eN m)) 0 rfl (.int _)) (by omega)) (by rw [List.length_range]; omega) fun k hk B2 s2 v hv => ?_) (by simp)) (ea_cons (EV.is (ev_lcM (X := fxDi P w K mg base z) (own := [("_law_k", 3)]) (its := List.range m) (g := fun k => eN (k - 1)) rfl scDi.nd (blkOk_by (N := sDi) (sc := defScope (topS 53)) (by decide +kernel)) (sn_range (n := m) L.range (ev_var (P := dt K (eN m)) 0 rfl (.int _)) (by omega)) (by rw [List.length_range]; omega) fun k hk B2 s2 v hv => ?_) (by simp)) ea_nil)) fun v1 v2 B1 H1 x1 p1 p2 => ?_)
    · obtain rfl := dp_i hv
      refine ⟨[some (.int (m : Int)), none, none, some (.int (k : Int))], rfl, fun zz H' s' => tj_name 3 scDi.nd, fun zz => EV.is (ev_min2 (X := bx (fxDi P w K mg base z) _ zz) rfl L.min (ev_add (ev_var (P := dt K (eN k)) 3 rfl (.int _)) ev_int) (ev_sub (ev_var (P := dt K (eN m)) 0 rfl (.int _)) ev_int)) (congrArg PyData.int ?_)⟩
      have := List.mem_range.mp hk
      split <;> omega
    · obtain rfl := dp_i hv
      refine ⟨[some (.int (m : Int)), none, none, some (.int (k : Int))], rfl, fun zz H' s' => tj_name 3 scDi.nd, fun zz => EV.is (ev_max2 (X := bx (fxDi P w K mg base z) _ zz) rfl L.max (ev_sub (ev_var (P := dt K (eN k)) 3 rfl (.int _)) ev_int) ev_int) (congrArg PyData.int ?_)⟩
      split <;> omega
    · refine b_cons (s_retD x1 (ev_tupM (X := fxDi P w K mg base z) (Ps := matPs K (dialT m)) (ea_cons (ev_var (P := dt K (eN m)) 0 rfl (.int _)) (ea_cons (ev_disp (rw' := (dialT m).rows) (pps_cons pe_w pe_w (pps_cons pe_w pe_w pps_nil)) (evp_cons ev_str (ev_tupleL L.tuple (ev_var (P := dt K (eLN ((List.range m).map fun k => min (k + 1) (m - 1)))) 1 rfl p1)) (evp_cons ev_str (ev_tupleL L.tuple (ev_var (P := dt K (eLN ((List.range m).map fun k => k - 1))) 2 rfl p2)) evp_nil)) (by show (["up", "down"] : List Str).Nodup; decide +kernel) (by show 2 ≤ 15; decide)) (ea_cons (ev_tupRgF rfl L.tuple L.range (ev_var (P := dt K (eN m)) 0 rfl (.int _)) (by omega)) ea_nil))) (show 3 ≤ 100000 by decide)))
theorem ok_tg (L : Bl mg) (D : Gd K mg "_law_tags" (topS 58) []) : Gf P w K mg base 1 "_law_tags" (spTg K) :=
  D.pure (k := 0) scTg (fun _ => rfl) (fun _ _ _ _ _ _ us hl => match us, hl with | [_], _ => rfl) fun z vs B m hm ha sb hr => by
    obtain ⟨va, rfl, h1⟩ := allM1 ha
    have h5 := hm.r5
    refine b_cons (s_retD (Nx.refl sb) (ev_tupleL (X := fx P w K mg base sTg "_law_tags" (topS 58) z) (ds := (srt (m.rows.map (·.1))).map eS) L.tuple (ev_sortT L.sorted (EV.is (ev_lcM (X := fx P w K mg base sTg "_law_tags" (topS 58) z) (own := [("_law_own", 1)]) (its := m.rows) (g := fun r => eS r.1) rfl scTg.nd (blkOk_by (N := sTg) (sc := defScope (topS 58)) (by decide +kernel)) (sn_fd (ev_ixM (i := 1) (ev_var 0 rfl h1) ev_int rfl)) (by omega) fun r hr2 B2 s2 v hv => ?_) (by rw [List.map_map]; rfl)) (by rw [List.length_map]; omega))))
    exact ⟨[some va, some v], rfl, fun zz H' s' => tj_name 1 scTg.nd, fun zz => ev_str1 L.str (ev_var 1 rfl hv)⟩
end
end K7
/-! _law_known, _law_some_machine. -/
namespace K7
set_option pp.maxSteps 300
open PySem PySem.Spec PyProof.Rows L2
theorem sub_ok {m : Mt} (h : m.Ok) {l : List Str} (hne : l ≠ []) (nd : l.Nodup) (hm : ∀ x ∈ l, x ∈ m.rows.map (·.1)) (h5 : l.length ≤ 5) : (⟨m.n, l.map fun x => (x, (m.rows.lookup x).getD []), m.sh⟩ : Mt).Ok where
  n1 := h.n1
  n4 := h.n4
  nd := by
    show ((l.map fun x => (x, (m.rows.lookup x).getD [])).map (·.1)).Nodup
    rw [List.map_map, show ((fun r : Str × List Nat => r.1) ∘ fun x => (x, (m.rows.lookup x).getD [])) = id from rfl, List.map_id]
    exact nd
  nm := fun r hr => by
    obtain ⟨x, hx, rfl⟩ := List.mem_map.mp hr
    exact h.nm _ (lookup_mem (hm x hx))
  ro := fun r hr => by
    obtain ⟨x, hx, rfl⟩ := List.mem_map.mp hr
    exact h.ro _ (lookup_mem (hm x hx))
  sl := h.sl
  r1 := by
    show 1 ≤ (l.map _).length
    rw [List.length_map]
    cases l with
    | nil => exact absurd rfl hne
    | cons => simp
  r5 := by
    show (l.map _).length ≤ 5
    rw [List.length_map]
    exact h5
theorem Mt.Ok.nms {m : Mt} (h : m.Ok) : m.mac.nms.Nodup ∧ 1 ≤ m.mac.nms.length ∧ m.mac.nms.length ≤ 5 ∧ ∀ x ∈ m.mac.nms, x ∈ m.rows.map (·.1) := by
  have p : m.mac.nms.Perm (m.rows.map (·.1)) := srt_perm _
  have hl := p.length_eq
  rw [List.length_map] at hl
  exact ⟨p.nodup_iff.mpr h.nd, by rw [hl]; exact h.r1, by rw [hl]; exact h.r5, fun x hx => p.mem_iff.mp hx⟩
section
variable {P : Program} {w : World} {K : PySem.W.Frag} {mg : Str → Option Value} {base : Heap}
abbrev fxKn (P : Program) (w : World) (K : PySem.W.Frag) (mg : Str → Option Value) (base : Heap) (z : Fz) : Cx := fx P w K mg base sKn "_law_known" (topS 56) z
set_option maxHeartbeats 2000000 in
theorem ok_kn (L : Bl mg) (G : Gf P w K mg base 1 "_law_take" (spTake K)) (Go : Gf P w K mg base 2 "_law_of" (spOf K)) (Gl1 : Gf P w K mg base 1 "_law_lamp" (spCst K lampT)) (Gd1 : Gf P w K mg base 1 "_law_dial" (spDi K)) (Gc : Gf P w K mg base 1 "_law_copier" (spCst K copT)) (Gl2 : Gf P w K mg base 1 "_law_lamps" (spCst K lampsT)) (Gt : Gf P w K mg base 1 "_law_tags" (spTg K)) (D : Gd K mg "_law_known" (topS 56) []) : Gf P w K mg base 3 "_law_known" (spKn K) :=
  D.box (k := 2) scKn (fun _ => rfl) (fun _ _ _ _ _ _ us hl => match us, hl with | [_], _ => rfl) fun z vs q B j t hm ha S hr => by
    have := allM0 ha
    subst this
    have hr1 : Room 1 (fxKn P w K mg base z).A := hr.mono (by decide)
    refine b_cons (sb_set (P := exM Mt.Ok (matM K)) 1 scKn.nd (n := 1) (k := 6 + j) (S.le (by show _ ≤ 20 + j; omega)) (BV.imp (bv_call (X := fxKn P w K mg base z) (n := 0) [matM K lampT, matM K (dialT 3), matM K (dialT 4), matM K copT, matM K lampsT] Go hr (ev_var (P := eqM (.ref q)) 0 rfl rfl)
      (ba_cons (n := 0) (m := 0) (ba_ls (ea_cons (ev_call0 () Gl1 hr1 rfl True.intro) (ea_cons (ev_call 3 Gd1 hr1 (ea_cons ev_int ea_nil) (by decide)) (ea_cons (ev_call 4 Gd1 hr1 (ea_cons ev_int ea_nil) (by decide)) (ea_cons (ev_call0 () Gc hr1 rfl True.intro) (ea_cons (ev_call0 () Gl2 hr1 rfl True.intro) ea_nil))))).ba (show 5 ≤ 100000 by decide)) ba_nil (by decide)) ⟨by simp, by simp⟩ (by decide)) fun v B1 _ p => ?_) fun v1 B1 H1 x1 S1 ⟨m, hm, p1⟩ => ?_)
    · obtain ⟨Q, hQ, p⟩ := p
      simp only [List.mem_cons, List.not_mem_nil, or_false] at hQ
      rcases hQ with rfl | rfl | rfl | rfl | rfl
      · exact ⟨_, lamp_ok, p⟩
      · exact ⟨_, dial3_ok, p⟩
      · exact ⟨_, dial4_ok, p⟩
      · exact ⟨_, cop_ok, p⟩
      · exact ⟨_, lamps_ok, p⟩
    refine b_cons (sb_if (n := 1) (k := 5 + j) (S1.le (by omega)) (bt_eqN (bv_call (X := fxKn P w K mg base z) (n := 0) 2 G hr1 (ev_var (P := eqM (.ref q)) 0 rfl rfl) (ba_cons (n := 0) (m := 0) ev_int.bv ba_nil (by decide)) (by decide) (by decide))) (fun _ B2 H2 x2 S2 => ?_) fun _ B2 H2 x2 S2 => b_nil ?_)
    · exact b_cons (sb_retD (n := 0) (k := j) (x1.trans x2) (S2.le (by omega)) (ev_var (P := exM Mt.Ok (matM K)) 1 rfl ⟨m, hm, (matM K m).mono x2.b p1⟩).bv)
    have p2 := (matM K m).mono x2.b p1
    obtain ⟨n1, n2, n3, n4⟩ := hm.nms
    refine b_cons (s_set 2 scKn.nd S2.s (ev_call m Gt hr1 (ea_cons (ev_var (P := matM K m) 1 rfl p2) ea_nil) hm) fun v3 B3 H3 x3 p3 => ?_)
    have p23 := (matM K m).mono x3.b p2
    have hne : m.mac.nms ≠ [] := fun e => by rw [e] at n2; cases n2
    refine b_cons (sb_set (P := exD K (fun l : List Str => l ≠ [] ∧ l.Nodup ∧ (∀ x ∈ l, x ∈ m.rows.map (·.1)) ∧ l.length ≤ 5) fun l => .list (l.map eS)) 3 scKn.nd (n := 5) (k := j) ((S2.nx x3).le (by omega)) (bv_or (n := 5) (m := 0) (pr := fun l : List Str => l.Nodup ∧ (∀ x ∈ l, x ∈ m.rows.map (·.1)) ∧ l.length ≤ 5) (enc := eS) (bv_lcF (X := fxKn P w K mg base z) (own := [("_law_own", 4)]) (n := 1) (L := 5) (n0 := 0) (g := eS) rfl scKn.nd (blkOk_by (N := sKn) (sc := defScope (topS 56)) (by decide +kernel)) (sn_enc (sn_tup (ev_var (P := dt K (eTS m.mac.nms)) 2 rfl p3))).bv (fun its h => by rw [h]; exact n3) (by decide)
      (fun its _ it _ B' s u v hv => ⟨[some (.ref q), some v1, some v3, none, some v], rfl, fun zz H' s' => tj_name 4 scKn.nd, fun zz => bt_gtN (bv_call (X := bx (fxKn P w K mg base z) _ zz) (n := 0) 3 G hr1 (ev_var (P := eqM (.ref q)) 0 rfl rfl) (ba_cons (n := 0) (m := 0) ev_int.bv ba_nil (by decide)) ⟨by decide, by decide⟩ (by decide)), fun zz => ev_var 4 rfl hv⟩)
      (fun its l h1 h2 => ⟨by rw [h1] at h2; exact h2.nodup n1, fun x hx => by rw [h1] at h2; exact n4 x (h2.subset hx), by have := h2.length_le; rw [h1] at this; omega⟩) (by decide))
      (fun _ => (EV.imp (R := exD K (fun l : List Str => l ≠ [] ∧ l.Nodup ∧ (∀ x ∈ l, x ∈ m.rows.map (·.1)) ∧ l.length ≤ 5) fun l => .list (l.map eS)) (ev_lst (X := fxKn P w K mg base z) (ds := [eS (m.mac.nms.head hne)]) (ea_cons (ev_ixT (i := 0) (ev_var (P := dt K (eTS m.mac.nms)) 2 rfl p3) ev_int (by rw [List.getElem?_map, ← List.head?_eq_getElem?, List.head?_eq_some_head hne]; rfl)) ea_nil) (show 1 ≤ 100000 by decide)) fun v B1 _ p => ⟨[m.mac.nms.head hne], ⟨by simp, by simp, fun x hx => by rw [List.mem_singleton.mp hx]; exact n4 _ (List.head_mem hne), by simp⟩, p⟩).bv) (fun l v B1 hp hne p => ⟨l, ⟨hne, hp.1, hp.2.1, hp.2.2⟩, p⟩) (by decide)) fun v4 B4 H4 x4 S4 ⟨kept, ⟨hk1, hk2, hk3, hk4⟩, p4⟩ => ?_)
    have p24 := (matM K m).mono x4.b p23
    have nok := sub_ok hm hk1 hk2 hk3 hk4
    refine b_cons (sb_retD (n := 0) (k := j) (((x1.trans x2).trans x3.bx).trans x4) (S4.le (by omega)) (EV.imp (R := exM Mt.Ok (matM K)) (ev_tupM (X := fxKn P w K mg base z) (Ps := matPs K ⟨m.n, kept.map fun x => (x, (m.rows.lookup x).getD []), m.sh⟩) (ea_cons (ev_ixM (P := dt K (eN m.n)) (i := 0) (ev_var (P := matM K m) 1 rfl p24) ev_int rfl) (ea_cons (ev_dictF (rw' := kept.map fun x => (x, (m.rows.lookup x).getD [])) rfl L.dict (EV.is (ev_lcM (X := fxKn P w K mg base z) (own := [("_law_own", 4)]) (its := kept) (g := fun x => .tuple [eS x, eTN ((m.rows.lookup x).getD [])]) rfl scKn.nd (blkOk_by (N := sKn) (sc := defScope (topS 56)) (by decide +kernel)) (sn_enc (sn_list (ev_var (P := dt K (.list (kept.map eS))) 3 rfl p4))) (by omega) fun x hx B' s v hv => ?_) ?_) nok.nd) (ea_cons (ev_ixM (P := shM m.sh) (i := 2) (ev_var (P := matM K m) 1 rfl p24) ev_int rfl) ea_nil))) (show 3 ≤ 100000 by decide)) fun v B1 _ p => ⟨_, nok, p⟩).bv)
    · exact ⟨[some (.ref q), some v1, some v3, some v4, some v], rfl, fun zz H' s' => tj_name 4 scKn.nd, fun zz => ev_tup (X := bx (fxKn P w K mg base z) _ zz) (ds := [eS x, eTN ((m.rows.lookup x).getD [])]) (ea_cons (ev_var (P := dt K (eS x)) 4 rfl hv) (ea_cons (ev_fd (X := bx (fxKn P w K mg base z) _ zz) hr.u1 (ev_ixM (P := fdM K m.rows) (i := 1) (ev_var (P := matM K m) 1 rfl ((matM K m).mono s p24)) ev_int rfl) (ev_var (P := dt K (eS x)) 4 rfl hv) (hk3 x hx)) ea_nil)) (show 2 ≤ 100000 by decide)⟩
    · show PyData.list _ = PyData.list _
      rw [List.map_map, List.map_map]
      rfl
theorem ok_sm (L : Bl mg) (G : Gf P w K mg base 1 "_law_take" (spTake K)) (Gk : Gf P w K mg base 3 "_law_known" (spKn K)) (Gm : Gf P w K mg base 4 "_law_machine" (spMc K)) (D : Gd K mg "_law_some_machine" (topS 57) []) : Gf P w K mg base 5 "_law_some_machine" (spSm K) :=
  D.box (k := 4) scSm (fun _ => rfl) (fun _ _ _ _ _ _ us hl => match us, hl with | [_, _, _], _ => rfl) fun z vs q B j ⟨most, deeds⟩ hm ha S hr => by
    obtain ⟨va, vb, rfl, h1, h2⟩ := allM2 ha
    have e1 := dp_i h1
    have e2 := dp_i h2
    dsimp only at e1 e2
    subst e1 e2
    refine b_cons (sb_retD (n := 101) (k := j) (NxB.refl S.s) S (bv_iteB (n := 1) (m := 100) (p := fun _ => True) (bt_and (et_gt (ev_var (P := dt K (eN most)) 1 rfl (.int _)) ev_int) (fun _ => bt_eqN (bv_call (X := fx P w K mg base sSm "_law_some_machine" (topS 57) z) (n := 0) 4 G (hr.mono (by decide)) (ev_var (P := eqM (.ref q)) 0 rfl rfl) (ba_cons (n := 0) (m := 0) ev_int.bv ba_nil (by decide)) (by decide) (by decide))) (fun _ => True.intro))
      (fun _ => BV.le (bv_call (X := fx P w K mg base sSm "_law_some_machine" (topS 57) z) (n := 0) () Gk (hr.mono (by decide)) (ev_var (P := eqM (.ref q)) 0 rfl rfl) ba_nil True.intro (Nat.le_refl _)) (by decide))
      (fun _ => BV.imp (bv_call (X := fx P w K mg base sSm "_law_some_machine" (topS 57) z) (n := 0) (l := 100) (most, deeds) Gm hr (ev_var (P := eqM (.ref q)) 0 rfl rfl) (ba_cons (n := 0) (m := 0) (ev_var (P := dt K (eN most)) 1 rfl (.int _)).bv (ba_cons (n := 0) (m := 0) (ev_var (P := dt K (eN deeds)) 2 rfl (.int _)).bv ba_nil (by decide)) (by decide)) hm (by decide)) fun v B1 _ ⟨m, h, p⟩ => ⟨m, h.1, p⟩) (by decide)))
end
end K7
/-! _law_log, _law_some_states. -/
namespace K7
set_option pp.maxSteps 300
open PySem PySem.Spec PyProof.Rows L2
abbrev sLg : List Str := ["_law_box_here", "_law_tags_so", "_law_most_so", "_law_looks_so", "_law_pool_so", "_law_turn"]
theorem scLg : FnScope sLg ["_law_box_here", "_law_tags_so", "_law_most_so", "_law_looks_so"] (defScope (topS 64)) := ⟨rfl, rfl, rfl, by decide +kernel, rfl, by decide +kernel, by decide +kernel⟩
abbrev spLg (K : PySem.W.Frag) : Sp := spB (fun t : List Str × Bool => [dt K (eTS t.1), dt K (eN 9), dt K (.bool t.2)]) (fun t => t.1 ≠ [] ∧ t.1.length ≤ 5 ∧ ∀ x ∈ t.1, NameOk x) (fun _ => 10) fun t => exD K (fun l : List Str => l.length ≤ 9 ∧ ∀ x ∈ l, (x = look ∧ t.2 = true) ∨ x ∈ t.1) eTS
abbrev sSs : List Str := ["_law_box_here", "_law_mat", "_law_found", "_law_k"]
theorem scSs : FnScope sSs ["_law_box_here", "_law_mat"] (defScope (topS 67)) := ⟨rfl, rfl, rfl, by decide +kernel, rfl, by decide +kernel, by decide +kernel⟩
def StsOk (n : Nat) (l : List Nat) : Prop := 1 ≤ l.length ∧ l.length ≤ 4 ∧ ∀ x ∈ l, x < n
abbrev spSs (K : PySem.W.Frag) : Sp := spB (fun m : Mt => [matM K m]) (fun m => m.Ok) (fun _ => 5) fun m => exD K (StsOk m.n) eTN
theorem ev_intB {X : Cx} {e : Expr} {σ : L2.St} {B : Hp} {p pos : Pos} {k : Bool} (hm : X.mg "int" = none) (ha : EV X e σ B (dt X.K (.bool k))) (hg : Gl X "int" := by rfl) (he : starEach [e] X.env = (false, eval e X.env) :: starEach [] X.env := by rfl) : EV X (.Call (.Name "int" p) [e] [] pos) σ B (dt X.K (eN (if k then 1 else 0))) :=
  ev_bty call_int1 hm (by decide +kernel) (ea_cons ha ea_nil he) (fun vs B1 _ h => by
    obtain ⟨u, rfl, g⟩ := allM1 h
    rw [dp_b g]
    refine rc_now (z := .int (if k then 1 else 0)) ?_ fun H s Q g => .inr ⟨k, rfl, g⟩
    cases k
    · exact .int 0
    · exact .int 1) hg (by decide) (by decide) he rfl
theorem plain_names {l : List Str} (h : ∀ x ∈ l, NameOk x) (n : Nat) : plain (n + 1) (eTS l) = true := plainAll_map (n := n) fun x hx => by
  have := (h x hx).ok
  cases n <;> exact this
section
variable {P : Program} {w : World} {K : PySem.W.Frag} {mg : Str → Option Value} {base : Heap}
abbrev fxLg (P : Program) (w : World) (K : PySem.W.Frag) (mg : Str → Option Value) (base : Heap) (z : Fz) : Cx := fx P w K mg base sLg "_law_log" (topS 64) z
abbrev poolOf (l : List Str) (k : Bool) : List Str := l ++ l ++ List.replicate (if k then 1 else 0) look
theorem ok_lg (L : Bl mg) (G : Gf P w K mg base 1 "_law_take" (spTake K)) (Go : Gf P w K mg base 2 "_law_of" (spOf K)) (D : Gd K mg "_law_log" (topS 64) []) : Gf P w K mg base 3 "_law_log" (spLg K) :=
  D.box (k := 2) scLg (fun _ => rfl) (fun _ _ _ _ _ _ us hl => match us, hl with | [_, _, _, _], _ => rfl) fun z vs q B j ⟨tags, looks⟩ ⟨hne, h5, hok⟩ ha S hr => by
    obtain ⟨va, vb, vc, rfl, h1, h2, h3⟩ := allM3 ha
    have e2 := dp_i h2
    have e3 := dp_b h3
    dsimp only at e3 h1 hne h5 hok
    subst e2 e3
    have hr1 : Room 1 (fxLg P w K mg base z).A := hr.mono (by decide)
    have hn1 : 1 ≤ tags.length := by
      cases tags with
      | nil => exact absurd rfl hne
      | cons => simp
    refine b_cons (s_set (P := dt K (.list ((poolOf tags looks).map eS))) 4 scLg.nd S.s (EV.is (EV.nl (ev_cat (ev_cat (ev_listN L.list (ev_var (P := dt K (eTS tags)) 1 rfl h1)) (ev_listN L.list (ev_var (P := dt K (eTS tags)) 1 rfl h1)) (by rw [List.length_map]; omega)) (ev_repL (k := if looks || decide (tags = []) then 1 else 0) (ev_lstN (ds := [eS look]) (ea_cons ev_str ea_nil) (show 1 ≤ 100000 by decide)) (ev_intB L.int (ev_or (ev_var (P := dt K (.bool looks)) 3 rfl (.bl _)) (fun _ => ev_eq (n := 1) (m := 1) (q := tags = []) hr.units (ev_var (P := dt K (eTS tags)) 1 rfl h1) (ev_tup (ds := []) ea_nil) (plain_names hok 0) rfl (by decide) (by decide) (by simp)))) (by split <;> simp) (by split <;> simp)) ?_)) ?_) fun v4 B1 H1 x1 p4 => ?_)
    · rw [List.length_append, List.length_map]
      split <;> simp <;> omega
    · have e0 : decide (tags = []) = false := decide_eq_false hne
      rw [e0, Bool.or_false]
      cases looks <;> simp [poolOf]
    have hpl : (poolOf tags looks).length ≤ 11 := by
      simp only [poolOf, List.length_append, List.length_replicate]
      split <;> omega
    have S1 := S.nx x1
    refine b_cons (sb_retD (n := 10) (k := j) x1.bx S1 (bv_tupleL (enc := fun l : List Str => l.map eS) (pr := fun l : List Str => l.length ≤ 9 ∧ ∀ x ∈ l, (x = look ∧ looks = true) ∨ x ∈ tags) L.tuple (bv_lcM (X := fxLg P w K mg base z) (own := [("_law_turn", 5)]) (n := 1) (L := 9) (n0 := 1) (pk := fun x => (x = look ∧ looks = true) ∨ x ∈ tags) (enc := eS) rfl scLg.nd (blkOk_by (N := sLg) (sc := defScope (topS 64)) (by decide +kernel)) (snb_range (pr := fun i => i < 10) L.range (bv_call (X := fxLg P w K mg base z) (n := 0) 10 G hr1 (ev_var (P := eqM (.ref q)) 0 rfl rfl) (ba_cons (n := 0) (m := 0) (EV.is (d' := eN 10) (ev_add (X := fxLg P w K mg base z) (ev_var (P := dt K (eN 9)) 2 rfl (.int _)) ev_int) rfl).bv ba_nil (by decide)) (by decide) (by decide)) (fun i hi => by omega)) (fun its ⟨i, hi, e⟩ => by rw [e, List.length_range]; omega) (by decide)
      (fun its h it hit B' s u v hv => ⟨[some (.ref q), some va, some (.int (9 : Nat)), some (.bl looks), some v4, some v], rfl, fun zz H' s' => tj_name 5 scLg.nd, fun zz => BV.imp (R := exD K (fun x => (x = look ∧ looks = true) ∨ x ∈ tags) eS) (bv_call (X := bx (fxLg P w K mg base z) _ zz) (n := 0) (((poolOf tags looks).map eS).map (dt K)) Go hr (ev_var (P := eqM (.ref q)) 0 rfl rfl) (ba_cons (n := 0) (m := 0) (EV.ls (ev_var (P := dt K (.list ((poolOf tags looks).map eS))) 4 rfl (dp_same s p4))).bv ba_nil (by decide)) ⟨by rw [List.length_map, List.length_map]; simp only [poolOf, List.length_append]; omega, by rw [List.length_map, List.length_map]; omega⟩ (by decide)) fun v B1 _ p => by
        obtain ⟨Q, hQ, p⟩ := p
        rw [List.map_map] at hQ
        obtain ⟨x, hx, rfl⟩ := List.mem_map.mp hQ
        refine ⟨x, ?_, p⟩
        rcases List.mem_append.mp hx with hx | hx
        · rcases List.mem_append.mp hx with hx | hx
          · exact .inr hx
          · exact .inr hx
        · cases looks with
          | true => exact .inl ⟨(List.mem_replicate.mp hx).2, rfl⟩
          | false => cases hx⟩)
      (fun its l ⟨i, hi, e⟩ h2 h3 => ⟨by rw [h2, e, List.length_range]; omega, h3⟩) (by decide))))
abbrev fxSs (P : Program) (w : World) (K : PySem.W.Frag) (mg : Str → Option Value) (base : Heap) (z : Fz) : Cx := fx P w K mg base sSs "_law_some_states" (topS 67) z
theorem ok_ss (L : Bl mg) (G : Gf P w K mg base 1 "_law_take" (spTake K)) (D : Gd K mg "_law_some_states" (topS 67) []) : Gf P w K mg base 2 "_law_some_states" (spSs K) :=
  D.box (k := 1) scSs (fun _ => rfl) (fun _ _ _ _ _ _ us hl => match us, hl with | [_, _], _ => rfl) fun z vs q B j m hm ha S hr => by
    obtain ⟨va, rfl, h1⟩ := allM1 ha
    have n1 := hm.n1
    have n4 := hm.n4
    refine b_cons (s_lcB (X := fxSs P w K mg base z) (i := 2) (own := [("_law_k", 3)]) (n := 1) (L := 4) (n0 := 0) (k := 1 + j) (tp := fun _ _ => True) (pm := fun it x => x = it) (enc := eN) (pr := fun l : List Nat => l.Sublist (List.range m.n)) (fun its i l => l.Sublist (its.take i)) rfl scSs.nd rfl rfl rfl (blkOk_by (N := sSs) (sc := defScope (topS 67)) (by decide +kernel)) (sn_range (n := m.n) L.range (ev_ixM (P := dt K (eN m.n)) (i := 0) (ev_var (P := matM K m) 1 rfl h1) ev_int rfl) (by omega)).bv (fun its h => by rw [h, List.length_range]; exact n4) (by decide) (fun _ _ => List.nil_sublist _) (fun _ _ _ _ hi _ h => (sub_take hi h).1) (fun its i it l x hi _ hx h => by
      rw [hx]
      exact (sub_take hi h).2) (fun its ol it hit B' s u v hv => ⟨[some (.ref q), some va, none, some v], 1, 0, by decide, rfl, fun zz H' s' => tj_name 3 scSs.nd, fun zz => bts_one (bt_eqN (bv_call (X := bx (fxSs P w K mg base z) _ zz) (n := 0) 2 G hr (ev_var (P := eqM (.ref q)) 0 rfl rfl) (ba_cons (n := 0) (m := 0) ev_int.bv ba_nil (by decide)) ⟨by decide, by decide⟩ (by decide))), fun zz => (EV.imp (R := exD K (fun x => x = it) eN) (ev_var (P := dt K (eN it)) 3 rfl hv) fun v B1 _ p => ⟨it, rfl, p⟩).bv⟩)
      (fun its l h1 h2 => by rwa [h1, List.take_of_length_le (Nat.le_refl _)] at h2) (S.le (by show _ ≤ 5 + j; omega)) fun v2 B1 H1 l x1 S1 hl p2 => ?_)
    have h1' := (matM K m).mono x1.b h1
    refine b_cons (sb_retD (n := 1) (k := j) x1 S1 (BV.imp (R := exD K (StsOk m.n) eTN) (bv_tupleL (enc := fun l : List Nat => l.map eN) (pr := StsOk m.n) L.tuple (bv_or (n := 0) (m := 1) (R := exD K (StsOk m.n) fun l : List Nat => .list (l.map eN)) (pr := fun l' : List Nat => l' = l) (enc := eN) (ev_var (P := exD K (fun l' : List Nat => l' = l) fun l : List Nat => .list (l.map eN)) 2 rfl ⟨l, rfl, p2⟩).bv (fun _ => ?_) (fun l' v B1 e hne p => ⟨l', ?_, p⟩) (by decide))) fun v B1 _ p => p))
    · refine bv_of (pe_lst (pa_cons pe_w pa_nil)) fun H k S Q g => (bv_call (X := fxSs P w K mg base z) (n := 0) (l := 1) m.n G hr (ev_var (P := eqM (.ref q)) 0 rfl rfl) (ba_cons (n := 0) (m := 0) (ev_ixM (P := dt K (eN m.n)) (i := 0) (ev_var (P := matM K m) 1 rfl h1') ev_int rfl).bv ba_nil (by decide)) ⟨n1, by omega⟩ (by decide)) H k S _ fun v B1 H1 x1 S1 ⟨i, hi, pv⟩ => ⟨show 1 ≤ sizeLine by decide, fun p hp => ?_⟩
      have x2 := (Nx.refl S1.s).put (o := .lst [v]) hp
      exact g _ _ _ (x1.trans x2.bx) (S1.nx x2) ⟨[i], ⟨by simp, by simp, fun x hx => by rw [List.mem_singleton.mp hx]; exact hi⟩, .lst (.inl (.inl upd_same)) (.cons (dp_same x2.b pv) .nil)⟩
    · subst e
      have hl2 := hl.length_le
      rw [List.length_range] at hl2
      exact ⟨by cases l' with
        | nil => exact absurd rfl hne
        | cons => simp, by omega, fun x hx => List.mem_range.mp (hl.subset hx)⟩
end
end K7
/-! _law_cells, _law_box. -/
namespace K7
set_option pp.maxSteps 300
open PySem PySem.Spec PyProof.Rows L2
section
variable {X : Cx} {a e c : Expr} {σ : L2.St} {q : Addr} {B H : Hp} {D : Ends} {p p1 p2 p3 p4 p5 p6 pos : Pos} {xs : List V} {x y : Str} {i j kk : Nat} {ds : List PyData}
theorem ev_abs {v : Int} (hm : X.mg "abs" = none) (ha : EV X e σ B (dt X.K (.int v))) (hg : Gl X "abs" := by rfl) (he : starEach [e] X.env = (false, eval e X.env) :: starEach [] X.env := by rfl) : EV X (.Call (.Name "abs" p) [e] [] pos) σ B (dt X.K (.int (if v < 0 then -v else v))) :=
  ev_blt call_abs hm (by decide +kernel) (ea_cons ha ea_nil he) (fun vs B1 _ h => by
    obtain ⟨u, rfl, g⟩ := allM1 h
    rw [dp_i g]
    exact rc_now (.int _) fun H s Q g => ⟨v, rfl, g⟩) hg (by decide) (by decide) he rfl
/-- x = list(a) or [c]: a new list, to be written -/
theorem s_orNew {v : Int} (i : Nat) (hnd : X.N.Nodup) (sb : Same B H) (hm : X.mg "list" = none) (ha : EV X a σ B (dt X.K (.list ds))) (k : ∀ r xs B1 H1, Nx B H B1 H1 → H1 r = none → ((ds ≠ [] ∧ DpAll X.K B1 xs ds) ∨ (ds = [] ∧ xs = [.int v])) → D.nx (σ.set i (some (.ref r))) (upd H1 r (.lst xs)))
    (hN : X.N[i]? = some x := by rfl) (hx : Loc X.env.scope x := by first | exact .inl rfl | exact .inr rfl) (hf : X.fn x = true ∨ X.env.scope.names.lookup x = some .local := by first | exact .inl rfl | exact .inr rfl) (hg : Gl X "list" := by rfl) (he : starEach [a] X.env = (false, eval a X.env) :: starEach [] X.env := by rfl)
    (hs : swapsWith (.BoolOp .Or [.Call (.Name "list" p2) [a] [] p3, .List [.Constant (.int v) kk p4] p5] p6) (some (.Name x p1)) pos.line X.env = pure false := by rfl) : wS X (.Assign [.Name x p1] (.BoolOp .Or [.Call (.Name "list" p2) [a] [] p3, .List [.Constant (.int v) kk p4] p5] p6) pos) D σ H := by
  refine s_of (ps_set hnd hN hx (pe_orT (pe_callTy call_list_of hg hm boot_list (pa_cons pe_w pa_nil he) (by decide) (by decide) he rfl) (pe_one (pe_lst (pa_cons pe_int pa_nil)))) hs hf) (ha H sb _ fun u B1 H1 x1 pu => ?_)
  obtain ⟨l, xs, rfl, hl, hd⟩ := dp_l pu
  refine ⟨l, xs, rfl, .inl (same_l x1.s hl), fun r hr => ⟨!xs.isEmpty, .inl ⟨xs, .inl (.inl upd_same), rfl⟩, ?_⟩⟩
  have hlen := dpa_len hd
  cases xs with
  | nil =>
    have e0 : ds = [] := List.eq_nil_of_length_eq_zero hlen.symm
    refine iteF ⟨show 1 ≤ sizeLine by decide, fun r2 hr2 => ?_⟩
    exact k r2 [.int v] B1 _ (x1.hid (same_no x1.h hr) (same_no x1.s hr)) hr2 (.inr ⟨e0, rfl⟩)
  | cons u xs =>
    refine iteT (k r (u :: xs) B1 H1 x1 hr (.inl ⟨fun e => ?_, hd⟩))
    rw [e] at hlen
    cases hlen
/-- l[at], l[at] = e, l a hidden list -/
theorem ev_hidAt {v : Int} (i j' : Nat) (hs : σ[i]? = some (some (.ref q))) (hj' : σ[j']? = some (some (.int (j : Int)))) (hx : B q = some (.lst xs)) (hj : xs[j]? = some (.int v)) (hN : X.N[i]? = some x := by rfl) (hM : X.N[j']? = some y := by rfl) (hv : Vis X.env.scope x := by first | exact Or.inl rfl | exact Or.inr (Or.inl rfl) | exact Or.inr (Or.inr rfl)) (hw : Vis X.env.scope y := by first | exact Or.inl rfl | exact Or.inr (Or.inl rfl) | exact Or.inr (Or.inr rfl))
    (hd : (x == ("__debug__" : Str)) = false := by decide) (hcd : (x == ("__classdict__" : Str)) = false := by decide) (hd2 : (y == ("__debug__" : Str)) = false := by decide) (hcd2 : (y == ("__classdict__" : Str)) = false := by decide) : EV X (.Subscript (.Name x p1) (.Name y p2) pos) σ B (dt X.K (.int v)) :=
  ev_ix ix_list (fun _ _ => rfl) (ev_var (P := eqM (.ref q)) i hs rfl hN hv hd hcd) (ev_var (P := eqM (.int (j : Int))) j' hj' rfl hM hw hd2 hcd2) fun u w B1 s pu pw => by
    cases pu
    cases pw
    exact rv_now (.int _) fun H s2 Q g => ⟨q, xs, (j : Int), _, rfl, rfl, .inl (.inl (s2 _ _ (s _ _ hx))), atI_nat hj, g⟩
theorem s_hidPut {v : Int} (i j' : Nat) (hs : σ[i]? = some (some (.ref q))) (hj' : σ[j']? = some (some (.int (j : Int)))) (sb : Same B H) (hx : H q = some (.lst xs)) (bq : B q = none) (he : EV X e σ (upd B q (.lst xs)) (dt X.K (.int v))) (hj : j < xs.length) (k : ∀ B1 H1, Nx B H B1 H1 → D.nx σ (upd H1 q (.lst (xs.set j (.int v)))))
    (hN : X.N[i]? = some x := by rfl) (hM : X.N[j']? = some y := by rfl) (hv : Vis X.env.scope x := by first | exact Or.inl rfl | exact Or.inr (Or.inl rfl) | exact Or.inr (Or.inr rfl)) (hw : Vis X.env.scope y := by first | exact Or.inl rfl | exact Or.inr (Or.inl rfl) | exact Or.inr (Or.inr rfl))
    (hd : (x == ("__debug__" : Str)) = false := by decide) (hcd : (x == ("__classdict__" : Str)) = false := by decide) (hd2 : (y == ("__debug__" : Str)) = false := by decide) (hcd2 : (y == ("__classdict__" : Str)) = false := by decide)
    (q1 : swapsWithSole [.Subscript (.Name x p1) (.Name y p2) p3] e pos.line X.env = pure false := by rfl) (q2 : swappedStores [.Subscript (.Name x p1) (.Name y p2) p3] e X.env = pure none := by rfl)
    (q3 : (assignEach [.Subscript (.Name x p1) (.Name y p2) p3] X.env).map (·.2) = [assign (.Subscript (.Name x p1) (.Name y p2) p3) X.env] := by rfl) : wS X (.Assign [.Subscript (.Name x p1) (.Name y p2) p3] e pos) D σ H :=
  s_of (ps_asg pe_w (pg_sub (pe_var (i := i) hN hv hd hcd) (pe_var (i := j') hM hw hd2 hcd2) set_list) q1 q2 q3) (peekB sb hx bq he fun B1 H1 x1 => ⟨_, hs, _, hj', q, xs, (j : Int), j, rfl, rfl, x1.h _ _ hx, by
    unfold ixN
    rw [if_pos (by omega), if_pos (by omega)]
    rfl, k B1 H1 x1⟩)
end
abbrev sCl : List Str := ["_law_script", "_law_most_so", "_law_cells_here", "_law_k", "_law_cell", "_law_at_so"]
theorem scCl : FnScope sCl ["_law_script", "_law_most_so"] (defScope (topS 45)) := ⟨rfl, rfl, rfl, by decide +kernel, rfl, by decide +kernel, by decide +kernel⟩
abbrev spCl (K : PySem.W.Frag) : Sp := spD (fun l : List Int => [dt K (.list (l.map eI)), dt K (eN 2)]) (fun l => l.length ≤ 63) fun _ => exD K (fun l : List Int => 1 ≤ l.length ∧ l.length ≤ 2) fun l => .list (l.map eI)
abbrev sBx : List Str := ["_law_script", "_law_k", "_law_cell"]
theorem scBx : FnScope sBx ["_law_script", "_law_k"] (defScope (topS 43)) := ⟨rfl, rfl, rfl, by decide +kernel, rfl, by decide +kernel, by decide +kernel⟩
abbrev spBx (K : PySem.W.Frag) : Sp := fun vs H Q _ => ∃ (cells : List Int) (k : Nat) (B : Hp) (va : V), vs = [va, .int (k : Int)] ∧ Same B H ∧ Dp K B va (.list (cells.map eI)) ∧ k < cells.length ∧ k ≤ 1 ∧ ∀ p B1 H1, Nx B H B1 H1 → B1 p = none → H p = none → BoxAt p 1000000 H1 → Q (.ref p) H1
section
variable {P : Program} {w : World} {K : PySem.W.Frag} {mg : Str → Option Value} {base : Heap}
theorem ok_bx (L : Bl mg) (D : Gd K mg "_law_box" (topS 43) []) : Gf P w K mg base 1 "_law_box" (spBx K) :=
  D.any (k := 0) scBx (fun vs H Q E h => by
    obtain ⟨cells, k, B, va, rfl, -⟩ := h
    rfl) (fun _ _ _ _ _ _ us hl => match us, hl with | [_, _], _ => rfl) fun z vs Q hr h => by
    obtain ⟨cells, k, B, va, rfl, sb, h1, hk, hk1, hQ⟩ := h
    refine b_cons (s_set (P := dt K (eI (cells[k]'hk))) 2 scBx.nd sb (ev_ite (et_lt (ev_var (P := dt K (eN k)) 1 rfl (.int _)) (EV.is (d' := eN cells.length) (ev_lenL L.len (ev_var 0 rfl h1)) (by rw [List.length_map]))) (fun _ => ev_ixL (i := k) (ev_var 0 rfl h1) (ev_var (P := dt K (eN k)) 1 rfl (.int _)) (by rw [List.getElem?_map, List.getElem?_eq_getElem hk]; rfl)) (fun h => by
      have := of_decide_eq_false h
      omega)) fun v2 B1 H1 x1 p2 => ?_)
    obtain rfl := dp_i p2
    generalize cells[k]'hk = c
    have b01 : ∀ k : Bool, (if k then (1 : Nat) else 0) ≤ 1 := fun k => by cases k <;> decide
    have toN : ∀ {v : V} {B' : Hp} {x : Int}, 0 ≤ x → Dp K B' v (.int x) → (exD K (fun _ : Nat => True) eN).p v B' := fun {v} {B'} {x} h0 p => ⟨x.toNat, True.intro, by
      show Dp K B' v (.int (x.toNat : Int))
      rwa [Int.toNat_of_nonneg h0]⟩
    have hab : 0 ≤ (if c < 0 then -c else c) := by split <;> omega
    refine b_cons (s_of (ps_ret (pe_lst pa_w)) ((ea_cons (P := exD K (fun _ : Nat => True) eN) (EV.imp (R := exD K (fun _ : Nat => True) eN) (ev_mul (X := fx P w K mg base sBx "_law_box" (topS 43) z) (i := if c < 0 then -c else c) (ev_abs L.abs (ev_var (P := dt K (eI c)) 2 rfl (.int _))) (ev_intB L.int (ev_intcmp op_ge (nomark _) (ev_abs L.abs (ev_var (P := dt K (eI c)) 2 rfl (.int _))) (ev_pow ev_int ev_int ⟨by decide, by decide, by decide⟩))) (.inr (by
      have := b01 (decide (((10 : Int) ^ (18 : Int).toNat) ≤ (if c < 0 then -c else c)))
      generalize (if decide (((10 : Int) ^ (18 : Int).toNat) ≤ (if c < 0 then -c else c)) = true then (1 : Nat) else 0) = b at this ⊢
      exact ⟨by omega, by omega⟩))) fun v B' _ p => toN (Int.mul_nonneg hab (Int.natCast_nonneg _)) p) (ea_cons (P := dt K (eI (c % 2305843009213693951 + 39373 * (k : Int) + 71229))) (ev_add (ev_add (ev_mod (ev_int1 L.int (ev_var (P := dt K (eI c)) 2 rfl (.int _))) ev_int (by decide)) (ev_mul ev_int (ev_var (P := dt K (eN k)) 1 rfl (.int _)) (.inl ⟨by decide, by decide⟩))) ev_int) (ea_cons (P := dt K (eN 0)) ev_int ea_nil))) H1 x1.s _ fun vs B2 H2 x2 pv => ?_))
    obtain ⟨u, v, w', rfl, ⟨xx, _, p1⟩, p2, p3⟩ := allM3 pv
    obtain rfl := dp_i p1
    obtain rfl := dp_i p2
    obtain rfl := dp_i p3
    refine ⟨show 3 ≤ sizeLine by decide, fun r hr => hQ r B2 _ ((x1.trans x2).hid (same_no (x1.trans x2).h hr) (same_no x2.s hr)) (same_no x2.s hr) (same_no (x1.trans x2).h hr) ?_⟩
    have hy0 : 0 ≤ c % 2305843009213693951 := Int.emod_nonneg _ (by decide)
    have hy1 : c % 2305843009213693951 < 2305843009213693951 := Int.emod_lt_of_pos _ (by decide)
    refine ⟨xx, (c % 2305843009213693951 + 39373 * (k : Int) + 71229).toNat, 0, ?_, by omega, by decide⟩
    rw [upd_same, Int.toNat_of_nonneg (by omega)]
theorem ok_cl (L : Bl mg) (D : Gd K mg "_law_cells" (topS 45) []) : Gf P w K mg base 1 "_law_cells" (spCl K) :=
  D.pure (k := 0) scCl (fun _ => rfl) (fun _ _ _ _ _ _ us hl => match us, hl with | [_, _], _ => rfl) fun z vs B l hl ha sb hr => by
    obtain ⟨va, vb, rfl, h1, h2⟩ := allM2 ha
    obtain rfl := dp_i h2
    refine b_cons (s_orNew 2 scCl.nd sb L.list (EV.is (d' := .list ((l.take 2).map eI)) (ev_slL (ev_var (P := dt K (.list (l.map eI))) 0 rfl h1) eo_no (eo_yes (ev_var (P := dt K (eN 2)) 1 rfl (.int _)))) (by rw [cut_map]; rfl)) fun r xs B1 H1 x1 hr hxs => ?_)
    obtain ⟨cl, hc1, hc2, rfl, hlong⟩ : ∃ cl : List Int, 1 ≤ cl.length ∧ cl.length ≤ 2 ∧ xs = cl.map V.int ∧ (2 < l.length → cl.length = 2) := by
      rcases hxs with ⟨hne, hd⟩ | ⟨he, rfl⟩
      · refine ⟨l.take 2, ?_, by rw [List.length_take]; omega, dpa_ints hd, fun h => by rw [List.length_take]; omega⟩
        cases l with
        | nil => exact absurd rfl hne
        | cons a l => rw [List.length_take, List.length_cons]; omega
      · refine ⟨[0], by simp, by simp, rfl, fun h => ?_⟩
        have := congrArg List.length he
        rw [List.length_map, List.length_take, List.length_nil] at this
        omega
    have b1r : B1 r = none := same_no x1.s hr
    have hr0 : z.H r = none := same_no x1.h hr
    have S1 : Same B1 (upd H1 r (.lst (cl.map V.int))) := same_over x1.s b1r
    refine b_cons (s_for (X := fx P w K mg base sCl "_law_cells" (topS 45) z) PassesOwn.never rfl (sn_encE (l := cutD l (some 2) (some 63)) (enc := eI) (sn_enumL L.enum (EV.is (d' := .list ((cutD l (some 2) (some 63)).map eI)) (ev_slL (ev_var (P := dt K (.list (l.map eI))) 0 rfl (dp_same x1.b h1)) (eo_yes (ev_var (P := dt K (eN 2)) 1 rfl (.int _))) (eo_yes (k := 63) ev_int)) (by rw [cut_map])))) S1
      (fun i σ' B' H' => ∃ o3 o4 o5 cl', σ' = [some va, some (.int ((2 : Nat) : Int)), some (.ref r), o3, o4, o5] ∧ H' r = some (.lst (cl'.map V.int)) ∧ cl'.length = cl.length ∧ Nx B z.H B' H' ∧ B' r = none)
      (fun B2 H2 x2 => ⟨none, none, none, cl, rfl, x2.h _ _ upd_same, rfl, (x1.hid hr0 b1r).trans x2, x2.off upd_same b1r⟩)
      (fun i it σ' B' H' B2 H2 v hi ⟨o3, o4, o5, cl', e, hrl, hlen, x', br⟩ x2 hv => ?_) fun σ' B' H' s1 s2 ⟨o3, o4, o5, cl', e, hrl, hlen, x', br⟩ => ?_)
    · subst e
      obtain ⟨c, k⟩ := it
      obtain ⟨T, v1, v2, rfl, hT, p1, p2⟩ := hv
      obtain rfl := dp_i p1
      obtain rfl := dp_i p2
      have hpos : i < (cutD l (some 2) (some 63)).length := by
        have := (List.getElem?_eq_some_iff.mp hi).1
        rwa [List.length_zipIdx] at this
      have hl2 : 2 < l.length := by
        simp only [cutD, Option.getD, List.length_drop, List.length_take] at hpos
        omega
      have hc := hlong hl2
      refine ⟨_, tj_pair 3 4 rfl scCl.nd (x2.s _ _ hT), ?_⟩
      have hrl2 := x2.h _ _ hrl
      have br2 := x2.off hrl br
      have e5 : PyData.int ((k : Int) % ((2 : Nat) : Int)) = eN (k % 2) := congrArg PyData.int (Int.natCast_emod k 2).symm
      refine b_cons (s_set (P := dt K (eN (k % 2))) 5 scCl.nd x2.s (EV.is (ev_mod (ev_int1 L.int (ev_var (P := dt K (eN k)) 3 rfl (.int _))) (ev_var (P := dt K (eN 2)) 1 rfl (.int _)) (by decide)) e5) fun v5 B3 H3 x3 p5 => ?_)
      obtain rfl := dp_i p5
      have hrl3 := x3.h _ _ hrl2
      have br3 := x3.off hrl2 br2
      have hlt : k % 2 < cl'.length := by rw [hlen, hc]; omega
      refine b_cons (s_hidPut (j := k % 2) 2 5 rfl rfl x3.s hrl3 br3 (ev_add (ev_hidAt (q := r) (xs := cl'.map V.int) (v := cl'[k % 2]'hlt) 2 5 rfl rfl upd_same (by rw [List.getElem?_map, List.getElem?_eq_getElem hlt]; rfl)) (ev_mul (ev_var (P := dt K (eI c)) 4 rfl (.int _)) (ev_add (ev_var (P := dt K (eN k)) 3 rfl (.int _)) ev_int) (.inr ?_))) (by rw [List.length_map]; exact hlt) fun B4 H4 x4 => ?_)
      · have hk : k < 63 := by
          have := (zip_at hi).1
          simp only [cutD, Option.getD, List.length_drop, List.length_take] at hpos
          omega
        exact ⟨by omega, by omega⟩
      · have br4 := x4.off hrl3 br3
        refine b_nil ⟨B4, x3.b.trans x4.b, same_over x4.s br4, _, _, _, cl'.set (k % 2) (cl'[k % 2]'hlt + c * ((k : Int) + 2)), rfl, ?_, by rw [List.length_set, hlen], ((x'.trans x2).trans (x3.trans x4)).hid hr0 br4, br4⟩
        rw [upd_same, List.map_set]
    · subst e
      have y := x'.see hr0 br hrl
      refine b_cons (s_retD y (ev_var (P := exD K (fun l : List Int => 1 ≤ l.length ∧ l.length ≤ 2) fun l => .list (l.map eI)) 2 rfl ⟨cl', ⟨by omega, by omega⟩, .lst (.inl (.inl upd_same)) (ints_dpa cl')⟩))
end
end K7
/-! _law_host, _law_kinds. -/
namespace K7
set_option pp.maxSteps 300
open PySem PySem.Spec PyProof.Rows L2
theorem lookup_self {rows : List (Str × List Nat)} (nd : (rows.map (·.1)).Nodup) {r : Str × List Nat} (h : r ∈ rows) : (rows.lookup r.1).getD [] = r.2 := by
  have hm := lookup_mem (List.mem_map.mpr ⟨r, h, rfl⟩ : r.1 ∈ rows.map (·.1))
  have key : ∀ {rows : List (Str × List Nat)}, (rows.map (·.1)).Nodup → ∀ {a b : Str × List Nat}, a ∈ rows → b ∈ rows → a.1 = b.1 → a = b := by
    intro rows
    induction rows with
    | nil => intro _ a b ha; cases ha
    | cons x rows ih =>
      intro nd a b ha hb e
      rw [List.map_cons, List.nodup_cons] at nd
      rcases List.mem_cons.mp ha with rfl | ha
      · rcases List.mem_cons.mp hb with rfl | hb
        · rfl
        · exact absurd (List.mem_map.mpr ⟨b, hb, e.symm⟩) nd.1
      · rcases List.mem_cons.mp hb with hb0 | hb
        · rw [hb0] at e
          exact absurd (List.mem_map.mpr ⟨a, ha, e⟩) nd.1
        · exact ih nd.2 ha hb e
  exact congrArg (·.2) (key nd hm h rfl)
abbrev sHs : List Str := ["_law_mat", "_law_own"]
theorem scHs : FnScope sHs ["_law_mat"] (defScope (topS 59)) := ⟨rfl, rfl, rfl, by decide +kernel, rfl, by decide +kernel, by decide +kernel⟩
abbrev spHs (K : PySem.W.Frag) (C : Addr) : Sp := spD (fun m : Mt => [matM K m]) (fun m => m.Ok) fun m => machM K C m.mac
/-! ### the law's kinds -/
def rowsK (m : Mt) (mk : List Nat) : List (Nat × List Nat) := (List.range m.n).map fun s => (mk.getD s 0, m.rows.map fun r => mk.getD (stp m.mac r.1 s) 0)
abbrev eRK (p : Nat × List Nat) : PyData := .tuple [eN p.1, eLN p.2]
def iterK (m : Mt) : Nat → List Nat
  | 0 => firsts m.sh
  | i + 1 => firsts (rowsK m (iterK m i))
theorem iterK_eq {m : Mt} (h : m.Ok) : ∀ i, iterK m i = iter m.mac i
  | 0 => rfl
  | i + 1 => by
    show firsts (rowsK m (iterK m i)) = firsts (rowsOf m.mac (iter m.mac i))
    rw [iterK_eq h i]
    have l1 : (rowsK m (iter m.mac i)).length = m.n := by unfold rowsK; rw [List.length_map, List.length_range]
    have l2 : (rowsOf m.mac (iter m.mac i)).length = m.n := by
      unfold rowsOf
      rw [List.length_map, List.length_range]
      rfl
    refine firsts_congr (0, []) [] (l1.trans l2.symm) fun a b ha hb => ?_
    rw [l1] at ha hb
    have g1 : ∀ a, a < m.n → (rowsK m (iter m.mac i)).getD a (0, []) = ((iter m.mac i).getD a 0, m.rows.map fun r => (iter m.mac i).getD (stp m.mac r.1 a) 0) := fun a ha => by
      unfold rowsK
      rw [List.getD_eq_getElem?_getD, List.getElem?_map, List.getElem?_range ha]
      rfl
    have g2 : ∀ a, a < m.n → (rowsOf m.mac (iter m.mac i)).getD a [] = (iter m.mac i).getD a 0 :: m.mac.nms.map fun x => (iter m.mac i).getD (stp m.mac x a) 0 := fun a ha => by
      unfold rowsOf
      rw [List.getD_eq_getElem?_getD, List.getElem?_map, List.getElem?_range (show a < m.mac.n from ha)]
      rfl
    rw [g1 a ha, g1 b hb, g2 a ha, g2 b hb, Prod.mk.injEq, List.cons.injEq]
    refine and_congr Iff.rfl ?_
    rw [List.map_inj_left, List.map_inj_left]
    constructor
    · intro hh x hx
      obtain ⟨r, hr, rfl⟩ := List.mem_map.mp (h.nms.2.2.2 x hx)
      exact hh r hr
    · intro hh r hr
      exact hh r.1 ((srt_perm (m.rows.map (·.1))).mem_iff.mpr (List.mem_map.mpr ⟨r, hr, rfl⟩))
abbrev sKd : List Str := ["_law_mat", "_law_many_so", "_law_made", "_law_shows_so", "_law_marks_so", "_law_turn", "_law_rows_so", "_law_k", "_law_own"]
theorem scKd : FnScope sKd ["_law_mat"] (defScope (topS 60)) := ⟨rfl, rfl, rfl, by decide +kernel, rfl, by decide +kernel, by decide +kernel⟩
abbrev spKd (K : PySem.W.Frag) : Sp := spD (fun m : Mt => [matM K m]) (fun m => m.Ok) fun m => dt K (eLN (marks m.mac))
/-- a, b, c = t -/
theorem s_unpack3 {X : Cx} {e : Expr} {σ : L2.St} {B H : Hp} {D : Ends} {P1 P2 P3 : Mp} {p1 p2 p3 pt pos : Pos} {kt : Nat} {x y z : Str} (i j l : Nat) (hc : X.calm = true) (hnd : X.N.Nodup) (sb : Same B H) (he : EV X e σ B (tpM X.K [P1, P2, P3])) (k : ∀ a b c B1 H1, Nx B H B1 H1 → P1.p a B1 → P2.p b B1 → P3.p c B1 → D.nx (((σ.set i (some a)).set j (some b)).set l (some c)) H1)
    (hN : X.N[i]? = some x := by rfl) (hM : X.N[j]? = some y := by rfl) (hO : X.N[l]? = some z := by rfl) (hx : Loc X.env.scope x := by first | exact .inl rfl | exact .inr rfl) (hy : Loc X.env.scope y := by first | exact .inl rfl | exact .inr rfl) (hz : Loc X.env.scope z := by first | exact .inl rfl | exact .inr rfl)
    (hf : X.fn x = true ∨ X.env.scope.names.lookup x = some .local := by first | exact .inl rfl | exact .inr rfl) (hf2 : X.fn y = true ∨ X.env.scope.names.lookup y = some .local := by first | exact .inl rfl | exact .inr rfl) (hf3 : X.fn z = true ∨ X.env.scope.names.lookup z = some .local := by first | exact .inl rfl | exact .inr rfl)
    (hs : swapsWithSole [.Tuple [.Name x p1, .Name y p2, .Name z p3] kt pt] e pos.line X.env = pure false := by rfl) (hw : swappedStores [.Tuple [.Name x p1, .Name y p2, .Name z p3] kt pt] e X.env = pure none := by rfl)
    (h1 : (assignEach [.Tuple [.Name x p1, .Name y p2, .Name z p3] kt pt] X.env).map (·.2) = [assign (.Tuple [.Name x p1, .Name y p2, .Name z p3] kt pt) X.env] := by rfl) : wS X (.Assign [.Tuple [.Name x p1, .Name y p2, .Name z p3] kt pt] e pos) D σ H :=
  s_of (ps_asg pe_w (pg_tup hc (pgs_cons (pg_name hnd hN hx hf) (pgs_cons (pg_name hnd hM hy hf2) (pgs_cons (pg_name hnd hO hz hf3) pgs_nil)))) hs hw h1) (he H sb _ fun v B1 H1 x1 ⟨T, xs, ev, ht, ha⟩ => by
    obtain ⟨a, b, c, rfl, g1, g2, g3⟩ := allM3 ha
    exact ⟨T, [a, b, c], ev, same_t x1.s ht, rfl, a, [b, c], rfl, b, [c], rfl, c, [], rfl, rfl, k a b c B1 H1 x1 g1 g2 g3⟩)
section
variable {P : Program} {w : World} {K : PySem.W.Frag} {mg : Str → Option Value} {base : Heap} {C f : Addr}
theorem ok_hs (L : Bl mg) (Mk1 : Mk K C f) (F : Fo P w K mg base 4 f (spIni K C)) (hmg : mg "Machine" = some (.ref C)) (D : Gd K mg "_law_host" (topS 59) []) : Gf P w K mg base 6 "_law_host" (spHs K C) :=
  D.pure (k := 5) scHs (fun _ => rfl) (fun _ _ _ _ _ _ us hl => match us, hl with | [_], _ => rfl) fun z vs B m hm ha sb hr => by
    obtain ⟨va, rfl, h1⟩ := allM1 ha
    have h5 := hm.r5
    refine b_cons (s_retD (Nx.refl sb) (ev_make (X := fx P w K mg base sHs "_law_host" (topS 59) z) Mk1 F hr hmg hm.mac (ea_cons (ev_ixM (P := dt K (eN m.n)) (i := 0) (ev_var (P := matM K m) 0 rfl h1) ev_int rfl) (ea_cons (ev_tupleL L.tuple (ev_lcM (X := fx P w K mg base sHs "_law_host" (topS 59) z) (own := [("_law_own", 1)]) (its := m.rows) (g := eRow) rfl scHs.nd (blkOk_by (N := sHs) (sc := defScope (topS 59)) (by decide +kernel)) (sn_fd (ev_ixM (P := fdM K m.rows) (i := 1) (ev_var (P := matM K m) 0 rfl h1) ev_int rfl)) (by omega) fun r hr2 B2 s2 v hv => ?_)) (ea_cons (EV.ofSh (ev_ixM (P := shM m.sh) (i := 2) (ev_var (P := matM K m) 0 rfl h1) ev_int rfl)) ea_nil)))))
    refine ⟨[some va, some v], rfl, fun zz H' s' => tj_name 1 scHs.nd, fun zz => ev_tup (X := bx (fx P w K mg base sHs "_law_host" (topS 59) z) _ zz) (ds := [eS r.1, eTN r.2]) (ea_cons (ev_var (P := dt K (eS r.1)) 1 rfl hv) (ea_cons (EV.is (ev_fd (X := bx (fx P w K mg base sHs "_law_host" (topS 59) z) _ zz) (rows := m.rows) (z := r.1) hr.u1 (ev_ixM (P := fdM K m.rows) (i := 1) (ev_var (P := matM K m) 0 rfl ((matM K m).mono s2 h1)) ev_int rfl) (ev_var (P := dt K (eS r.1)) 1 rfl hv) (List.mem_map.mpr ⟨r, hr2, rfl⟩)) (by rw [lookup_self hm.nd hr2])) ea_nil)) (show 2 ≤ 100000 by decide)⟩
end
end K7
/-! _law_kinds. -/
namespace K7
set_option pp.maxSteps 300
open PySem PySem.Spec PyProof.Rows L2
section
variable {P : Program} {w : World} {K : PySem.W.Frag} {mg : Str → Option Value} {base : Heap}
abbrev fxKd (P : Program) (w : World) (K : PySem.W.Frag) (mg : Str → Option Value) (base : Heap) (z : Fz) : Cx := fx P w K mg base sKd "_law_kinds" (topS 60) z
theorem iterK_len {m : Mt} (h : m.Ok) (i : Nat) : (iterK m i).length = m.n := by
  cases i with
  | zero =>
    show (firsts m.sh).length = _
    rw [firsts_len]
    exact h.sl
  | succ i =>
    show (firsts (rowsK m (iterK m i))).length = _
    rw [firsts_len]
    unfold rowsK
    rw [List.length_map, List.length_range]
theorem plain_eRK (p : Nat × List Nat) : plain 5 (eRK p) = true := by
  show (plain 4 (eN p.1) && (plain 4 (eLN p.2) && true)) = true
  rw [plain_eN, plain_eLN]
  rfl
theorem plain_eRK' (n : Nat) (p : Nat × List Nat) : plain (n + 5) (eRK p) = true := by
  show (plain (n + 4) (eN p.1) && (plain (n + 4) (eLN p.2) && true)) = true
  rw [plain_eN, plain_eLN]
  rfl
theorem inj_eRK (a b : Nat × List Nat) (h : eRK a = eRK b) : a = b := by
  have h : PyData.tuple [eN a.1, eLN a.2] = .tuple [eN b.1, eLN b.2] := h
  injection h with h
  injection h with h1 h2
  injection h2 with h2 _
  injection h1 with h1
  injection h2 with h2
  have e2 : a.2 = b.2 := inj_eTN (congrArg PyData.tuple h2)
  exact Prod.ext (Int.ofNat_inj.mp h1) e2
set_option maxHeartbeats 2000000 in
theorem ok_kd (L : Bl mg) (D : Gd K mg "_law_kinds" (topS 60) []) : Gf P w K mg base 1 "_law_kinds" (spKd K) :=
  D.pure (k := 0) scKd (fun _ => rfl) (fun _ _ _ _ _ _ us hl => match us, hl with | [_], _ => rfl) fun z vs B m hm ha sb hr => by
    obtain ⟨va, rfl, h1⟩ := allM1 ha
    have n4 := hm.n4
    have hsl := hm.sl
    have h5 := hm.r5
    refine b_cons (s_unpack3 (P1 := dt K (eN m.n)) (P2 := fdM K m.rows) (P3 := shM m.sh) 1 2 3 rfl scKd.nd sb (ev_var (P := matM K m) 0 rfl h1) fun v1 v2 v3 B1 H1 x1 p1 p2 p3 => ?_)
    obtain rfl := dp_i p1
    refine b_cons (s_set (P := dt K (eLN (iterK m 0))) 4 scKd.nd x1.s (EV.is (ev_lcM (X := fxKd P w K mg base z) (own := [("_law_own", 8)]) (its := m.sh) (g := fun a => eN (m.sh.findIdx fun y => decide (y = a))) rfl scKd.nd (blkOk_by (N := sKd) (sc := defScope (topS 60)) (by decide +kernel)) (sn_enc (sn_tup (EV.ofSh (ev_var (P := shM m.sh) 3 rfl p3)))) (by omega) fun a ha B2 s2 v hv => ?_) ?_) fun v4 B2 H2 x2 p4 => ?_)
    · exact ⟨[some va, some (.int (m.n : Int)), some v2, some v3, none, none, none, none, some v], rfl, fun zz H' s' => tj_name 8 scKd.nd, fun zz => ev_indexT (X := bx (fxKd P w K mg base z) _ zz) (ev_var (P := shM m.sh) 3 rfl ((shM m.sh).mono s2 p3)) (ev_var (P := dt K (eI a)) 8 rfl hv) ha⟩
    · show PyData.list _ = PyData.list _
      unfold iterK firsts
      rw [List.map_map]
      rfl
    change wB (fxKd P w K mg base z) _ _ [some va, some (.int (m.n : Int)), some v2, some v3, some v4, none, none, none, none] _
    refine b_cons (s_for (X := fxKd P w K mg base z) PassesOwn.never rfl (sn_range (n := m.n) L.range (ev_var (P := dt K (eN m.n)) 1 rfl (.int _)) (by omega)) x2.s
      (fun i σ' B' H' => ∃ o5 o6 o7 vm, σ' = [some va, some (.int (m.n : Int)), some v2, some v3, some vm, o5, o6, o7, none] ∧ Nx B z.H B' H' ∧ Same B2 B' ∧ Dp K B' vm (eLN (iterK m i)))
      (fun B3 H3 x3 => ⟨none, none, none, v4, rfl, x1.trans (x2.trans x3), x3.b, dp_same x3.b p4⟩)
      (fun i it σ' B' H' B3 H3 v hi ⟨o5, o6, o7, vm, e, x', s', pm⟩ x3 hv => ?_) fun σ' B' H' s1 s2 ⟨o5, o6, o7, vm, e, x', s', pm⟩ => ?_)
    · subst e
      refine ⟨_, tj_name 5 scKd.nd, ?_⟩
      have x3' := x'.trans x3
      have s13 : Same B1 B3 := x2.b.trans (s'.trans x3.b)
      have q2 : (fdM K m.rows).p v2 B3 := (fdM K m.rows).mono s13 p2
      have pm3 := dp_same x3.b pm
      have hil := iterK_len hm i
      refine b_cons (s_new 6 scKd.nd fun p hp => ?_)
      have b3p : B3 p = none := same_no x3.s hp
      have hp0 : z.H p = none := same_no x3'.h hp
      change wB (fxKd P w K mg base z) _ _ [some va, some (.int (m.n : Int)), some v2, some v3, some vm, some v, some (.ref p), o7, none] _
      refine b_cons (s_for (X := fxKd P w K mg base z) PassesOwn.never rfl (sn_range (n := m.n) L.range (ev_var (P := dt K (eN m.n)) 1 rfl (.int _)) (by omega)) (same_over x3.s b3p)
        (fun k σ' B' H' => ∃ o7 acc, σ' = [some va, some (.int (m.n : Int)), some v2, some v3, some vm, some v, some (.ref p), o7, none] ∧ Nx B z.H B' H' ∧ Same B3 B' ∧ B' p = none ∧ H' p = some (.lst acc) ∧ DpAll K B' acc (((rowsK m (iterK m i)).take k).map eRK))
        (fun B4 H4 x4 => ⟨o7, [], rfl, (x3'.hid hp0 b3p).trans x4, x4.b, x4.off upd_same b3p, x4.h _ _ upd_same, .nil⟩)
        (fun k it2 σ'' B'' H'' B4 H4 v7 hk ⟨o7', acc, e, x'', s'', bp, hacc, hda⟩ x4 hv7 => ?_) fun σ'' B'' H'' s1 s2 ⟨o7', acc, e, x'', s'', bp, hacc, hda⟩ => ?_)
      · subst e
        have hk' : k < m.n ∧ it2 = k := by
          obtain ⟨h1, h2⟩ := List.getElem?_eq_some_iff.mp hk
          rw [List.length_range] at h1
          rw [List.getElem_range] at h2
          exact ⟨h1, h2.symm⟩
        obtain ⟨hkn, rfl⟩ := hk'
        obtain rfl := dp_i hv7
        refine ⟨_, tj_name 7 scKd.nd, ?_⟩
        have s34 : Same B3 B4 := s''.trans x4.b
        have pm4 := dp_same s34 pm3
        have q4 := (fdM K m.rows).mono s34 q2
        have hacc4 := x4.h _ _ hacc
        have bp4 := x4.off hacc bp
        have hal : acc.length < 100000 := by
          have := dpa_len hda
          rw [List.length_map, List.length_take] at this
          omega
        have hat : ∀ a, a < m.n → ((iterK m i).map eN)[a]? = some (eN ((iterK m i).getD a 0)) := fun a ha => by
          rw [List.getElem?_map, List.getD_eq_getElem?_getD, List.getElem?_eq_getElem (by omega)]
          rfl
        refine b_cons (s_app (P := dt K (eRK ((iterK m i).getD it2 0, m.rows.map fun r => (iterK m i).getD (stp m.mac r.1 it2) 0))) 6 x4.s rfl hacc4 hal (ev_tup (X := fxKd P w K mg base z) (ds := [eN ((iterK m i).getD it2 0), eLN (m.rows.map fun r => (iterK m i).getD (stp m.mac r.1 it2) 0)]) (ea_cons (ev_ixL (i := it2) (ev_var (P := dt K (eLN (iterK m i))) 4 rfl pm4) (ev_var (P := dt K (eN it2)) 7 rfl (.int _)) (hat it2 hkn)) (ea_cons (EV.is (ev_lcM (X := fxKd P w K mg base z) (own := [("_law_own", 8)]) (its := m.rows) (g := fun r => eN ((iterK m i).getD (stp m.mac r.1 it2) 0)) rfl scKd.nd (blkOk_by (N := sKd) (sc := defScope (topS 60)) (by decide +kernel)) (sn_fd (ev_var (P := fdM K m.rows) 2 rfl q4)) (by omega) fun r hr2 B5 s5 v8 hv8 => ?_) ?_) ea_nil)) (show 2 ≤ 100000 by decide)) fun v9 B5 H5 x5 p5 => ?_)
        · have hrm : r.1 ∈ m.rows.map (·.1) := List.mem_map.mpr ⟨r, hr2, rfl⟩
          have hst : stp m.mac r.1 it2 < m.n := hm.mac.stp_lt hrm hkn
          refine ⟨[some va, some (.int (m.n : Int)), some v2, some v3, some vm, some v, some (.ref p), some (.int (it2 : Int)), some v8], rfl, fun zz H' s' => tj_name 8 scKd.nd, fun zz => ev_ixL (X := bx (fxKd P w K mg base z) _ zz) (i := stp m.mac r.1 it2) (ev_var (P := dt K (eLN (iterK m i))) 4 rfl (dp_same s5 pm4)) (ev_ixT (i := it2) (ev_fd (X := bx (fxKd P w K mg base z) _ zz) (rows := m.rows) (z := r.1) hr.u1 (ev_var (P := fdM K m.rows) 2 rfl ((fdM K m.rows).mono s5 q4)) (ev_var (P := dt K (eS r.1)) 8 rfl hv8) hrm) (ev_var (P := dt K (eN it2)) 7 rfl (.int _)) ?_) (hat _ hst)⟩
          have hml : (m.mac.mv r.1).length = m.n := hm.mac.ml r.1 hrm
          show (((m.mac.mv r.1)).map eN)[it2]? = some (eN ((m.mac.mv r.1).getD it2 0))
          rw [List.getElem?_map, List.getD_eq_getElem?_getD, List.getElem?_eq_getElem (by omega)]
          rfl
        · show PyData.list _ = PyData.list _
          rw [List.map_map]
          rfl
        · have bp5 := x5.off hacc4 bp4
          refine b_nil ⟨B5, x5.b, same_over x5.s bp5, _, acc ++ [v9], rfl, (x''.trans (x4.trans x5)).hid hp0 bp5, s34.trans x5.b, bp5, upd_same, ?_⟩
          have hrk : (rowsK m (iterK m i))[it2]? = some ((iterK m i).getD it2 0, m.rows.map fun r => (iterK m i).getD (stp m.mac r.1 it2) 0) := by
            unfold rowsK
            rw [List.getElem?_map, List.getElem?_range hkn]
            rfl
          rw [List.take_add_one, hrk, List.map_append]
          exact dpa_snoc (dpa_same (x4.b.trans x5.b) hda) p5
      · subst e
        have hrl : (rowsK m (iterK m i)).length = m.n := by
          unfold rowsK
          rw [List.length_map, List.length_range]
        rw [List.length_range, List.take_of_length_le (by omega)] at hda
        have y := x''.see hp0 bp hacc
        have s5 : Same B'' (upd B'' p (.lst acc)) := same_new bp
        have pr : Dp K (upd B'' p (.lst acc)) (.ref p) (.list ((rowsK m (iterK m i)).map eRK)) := .lst (.inl (.inl upd_same)) (dpa_same s5 hda)
        refine b_cons (s_set (P := dt K (eLN (iterK m (i + 1)))) 4 scKd.nd y.s (EV.is (ev_lcM (X := fxKd P w K mg base z) (own := [("_law_own", 8)]) (its := rowsK m (iterK m i)) (g := fun a => eN (((rowsK m (iterK m i)).map eRK).findIdx fun z => PyData.eqv z (eRK a))) rfl scKd.nd (blkOk_by (N := sKd) (sc := defScope (topS 60)) (by decide +kernel)) (sn_enc (sn_list (ev_var (P := dt K (.list ((rowsK m (iterK m i)).map eRK))) 6 rfl pr))) (by omega) fun a ha B6 s6 v8 hv8 => ?_) ?_) fun v9 B6 H6 x6 p6 => ?_)
        · exact ⟨[some va, some (.int (m.n : Int)), some v2, some v3, some vm, some v, some (.ref p), o7', some v8], rfl, fun zz H' s' => tj_name 8 scKd.nd, fun zz => ev_indexL (X := bx (fxKd P w K mg base z) _ zz) (n := 6) hr.u65 (ev_var (P := dt K (.list ((rowsK m (iterK m i)).map eRK))) 6 rfl (dp_same s6 pr)) (ev_var (P := dt K (eRK a)) 8 rfl hv8) (List.mem_map.mpr ⟨a, ha, rfl⟩) (plainAll_map fun a _ => plain_eRK' 1 a) (by decide)⟩
        · have e := firstsD_enc (n := 6) (enc := eRK) (inj_eRK · ·) (rowsK m (iterK m i)) (plainAll_map fun a _ => plain_eRK' 1 a)
          show PyData.list _ = PyData.list ((firsts (rowsK m (iterK m i))).map eN)
          rw [← e]
          unfold firstsD
          rw [List.map_map, List.map_map]
          rfl
        · exact b_nil ⟨B6, (s''.trans s5).trans x6.b, x6.s, some v, some (.ref p), o7', v9, rfl, y.trans x6, (s'.trans x3.b).trans ((s''.trans s5).trans x6.b), p6⟩
    · subst e
      rw [List.length_range, iterK_eq hm] at pm
      exact b_cons (s_retD x' (ev_var (P := dt K (eLN (marks m.mac))) 4 rfl pm))
end
end K7
/-! _law_way, _law_marks, _law_equal, _law_without, _law_tells. -/
namespace K7
set_option pp.maxSteps 300
open PySem PySem.Spec PyProof.Rows L2
abbrev sLw : List Str := ["_law_mat", "_law_state_so", "_law_log_so", "_law_here", "_law_seen_so", "_law_own"]
theorem scLw : FnScope sLw ["_law_mat", "_law_state_so", "_law_log_so"] (defScope (topS 61)) := ⟨rfl, rfl, rfl, by decide +kernel, rfl, by decide +kernel, by decide +kernel⟩
abbrev spLw (K : PySem.W.Frag) : Sp := spD (fun t : Mt × Nat × Log => [matM K t.1, dt K (eN t.2.1), dt K (eTS t.2.2)]) (fun t => t.1.Ok ∧ t.2.1 < t.1.n ∧ LogOk t.1.mac t.2.2) fun t => dt K (eW (way t.1.mac t.2.1 t.2.2))
abbrev sLm : List Str := ["_law_mat", "_law_log_so", "_law_kinds_so", "_law_ways_so", "_law_k", "_law_seen_so", "_law_end_so"]
theorem scLm : FnScope sLm ["_law_mat", "_law_log_so"] (defScope (topS 62)) := ⟨rfl, rfl, rfl, by decide +kernel, rfl, by decide +kernel, by decide +kernel⟩
abbrev eMk (M : Mac) (l : Log) : PyData := .list ((marked M l).map eW)
abbrev spLm (K : PySem.W.Frag) : Sp := spD (fun t : Mt × Log => [matM K t.1, dt K (eTS t.2)]) (fun t => t.1.Ok ∧ LogOk t.1.mac t.2) fun t => dt K (eMk t.1.mac t.2)
abbrev sLe : List Str := ["_law_mat", "_law_one_so", "_law_two_so"]
theorem scLe : FnScope sLe ["_law_mat", "_law_one_so", "_law_two_so"] (defScope (topS 63)) := ⟨rfl, rfl, rfl, by decide +kernel, rfl, by decide +kernel, by decide +kernel⟩
abbrev spLe (K : PySem.W.Frag) : Sp := spD (fun t : Mt × Log × Log => [matM K t.1, dt K (eTS t.2.1), dt K (eTS t.2.2)]) (fun t => t.1.Ok ∧ LogOk t.1.mac t.2.1 ∧ LogOk t.1.mac t.2.2) fun t => dt K (.bool (decide (marked t.1.mac t.2.1 = marked t.1.mac t.2.2)))
abbrev sWo : List Str := ["_law_log_so", "_law_spots_so", "_law_k", "_law_own"]
theorem scWo : FnScope sWo ["_law_log_so", "_law_spots_so"] (defScope (topS 68)) := ⟨rfl, rfl, rfl, by decide +kernel, rfl, by decide +kernel, by decide +kernel⟩
abbrev spWo (K : PySem.W.Frag) : Sp := spD (fun t : Log × List Nat => [dt K (eTS t.1), dt K (eTN t.2)]) (fun t => t.1.length ≤ 300) fun t => dt K (eTS (without t.1 t.2))
abbrev sTe : List Str := ["_law_mat", "_law_one_so", "_law_two_so", "_law_states_so", "_law_mine", "_law_its", "_law_k"]
theorem scTe : FnScope sTe ["_law_mat", "_law_one_so", "_law_two_so", "_law_states_so"] (defScope (topS 69)) := ⟨rfl, rfl, rfl, by decide +kernel, rfl, by decide +kernel, by decide +kernel⟩
abbrev tells (M : Mac) (l p : Log) (st : List Nat) : List Nat := st.filter fun s => !decide (markedAt M l s = markedAt M p s)
abbrev spTe (K : PySem.W.Frag) : Sp := spD (fun t : Mt × Log × Log × List Nat => [matM K t.1, dt K (eTS t.2.1), dt K (eTS t.2.2.1), dt K (eTN t.2.2.2)]) (fun t => t.1.Ok ∧ LogOk t.1.mac t.2.1 ∧ LogOk t.1.mac t.2.2.1 ∧ (∀ s ∈ t.2.2.2, s < t.1.n) ∧ t.2.2.2.length ≤ 10) fun t => dt K (eLN (tells t.1.mac t.2.1 t.2.2.1 t.2.2.2))
section
variable {P : Program} {w : World} {K : PySem.W.Frag} {mg : Str → Option Value} {base : Heap}
abbrev fxLw (P : Program) (w : World) (K : PySem.W.Frag) (mg : Str → Option Value) (base : Heap) (z : Fz) : Cx := fx P w K mg base sLw "_law_way" (topS 61) z
set_option maxHeartbeats 1000000 in
theorem ok_lw (D : Gd K mg "_law_way" (topS 61) []) : Gf P w K mg base 1 "_law_way" (spLw K) :=
  D.pure (k := 0) scLw (fun _ => rfl) (fun _ _ _ _ _ _ us hl => match us, hl with | [_, _, _], _ => rfl) fun z vs B ⟨m, s0, l⟩ hp ha sb hr => by
    obtain ⟨va, vb, vc, rfl, h1, h2, h3⟩ := allM3 ha
    obtain ⟨hm, hs0, hl⟩ : m.Ok ∧ s0 < m.n ∧ LogOk m.mac l := hp
    have hsl := hm.sl
    have hM := hm.mac
    refine b_cons (s_par (P1 := dt K (eN s0)) (P2 := dt K (eTI [])) 3 4 rfl scLw.nd (by decide) sb (ea_cons (ev_var 1 rfl h2) (ea_cons (ev_tup (ds := []) ea_nil) ea_nil)) fun v3 v4 B1 H1 x1 p3 p4 => ?_)
    refine b_cons (s_for (X := fxLw P w K mg base z) PassesOwn.never rfl (sn_enc (sn_tup (ev_var 2 rfl (dp_same x1.b h3)))) x1.s
      (fun j σ' B' H' => ∃ hv here sv o seen, σ' = [some va, some vb, some vc, some hv, some sv, o] ∧ Nx B z.H B' H' ∧ Dp K B' hv (eN here) ∧ Dp K B' sv (eTI seen) ∧ here < m.n ∧ seen.length ≤ j ∧ way m.mac s0 l = (seen ++ (way m.mac here (l.drop j)).1, (way m.mac here (l.drop j)).2))
      (fun B2 H2 x2 => ⟨v3, s0, v4, none, [], rfl, x1.trans x2, dp_same x2.b p3, dp_same x2.b p4, hs0, Nat.le_refl _, by rw [List.drop_zero]; rfl⟩)
      (fun j it σ' B' H' B2 H2 v hi ⟨hv, here, sv, o, seen, e, x', ph, ps, hlt, hz, ew⟩ x2 hvv => ?_) fun σ' B' H' s1 s2 ⟨hv, here, sv, o, seen, e, x', ph, ps, hlt, hz, ew⟩ => ?_)
    · subst e
      refine ⟨_, tj_name 5 scLw.nd, ?_⟩
      have x2' := x'.trans x2
      have h1' := (matM K m).mono x2'.b h1
      have ph := dp_same x2.b ph
      have ps := dp_same x2.b ps
      have hj : j < l.length := (List.getElem?_eq_some_iff.mp hi).1
      have hl2 := hl.len
      have hw := way_at (M := m.mac) (h := here) hi
      refine b_cons (s_if (X := fxLw P w K mg base z) x2.s (et_eqS (ev_var 5 rfl hvv) ev_str) (fun hb B3 H3 x3 => ?_) fun hb B3 H3 x3 => ?_)
      · have hb := of_decide_eq_true hb
        rw [if_pos hb] at hw
        refine b_cons (s_set (P := dt K (eTI (seen ++ [m.sh.getD here 0]))) 4 scLw.nd x3.s (EV.is (ev_catT (ev_var (P := dt K (eTI seen)) 4 rfl (dp_same x3.b ps)) (ev_tup (ds := [eI (m.sh.getD here 0)]) (ea_cons (ev_ixT (i := here) (EV.ofSh (ev_ixM (P := shM m.sh) (i := 2) (ev_var (P := matM K m) 0 rfl ((matM K m).mono x3.b h1')) ev_int rfl)) (ev_var (P := dt K (eN here)) 3 rfl (dp_same x3.b ph)) ?_) ea_nil) (show 1 ≤ 100000 by decide)) ?_) ?_) fun v5 B4 H4 x4 p5 => b_nil (b_nil ⟨B4, x3.b.trans x4.b, x4.s, hv, here, v5, some v, seen ++ [m.sh.getD here 0], rfl, x2'.trans (x3.trans x4), dp_same x4.b (dp_same x3.b ph), p5, hlt, by rw [List.length_append]; exact Nat.succ_le_succ hz, ?_⟩))
        · rw [List.getElem?_map, List.getD_eq_getElem?_getD, List.getElem?_eq_getElem (by omega)]
          rfl
        · rw [List.length_map]
          simp
          omega
        · show PyData.tuple _ = PyData.tuple _
          rw [List.map_append]
          rfl
        · rw [ew, hw, List.append_assoc]
          rfl
      · have hb := of_decide_eq_false hb
        rw [if_neg hb] at hw
        have hin : it ∈ m.rows.map (·.1) := (hl.mem it (List.mem_of_getElem? hi)).resolve_left hb
        have hml : (m.mac.mv it).length = m.n := hM.ml it hin
        refine b_cons (s_set (P := dt K (eN (stp m.mac it here))) 3 scLw.nd x3.s (ev_ixT (i := here) (ev_fd (rows := m.rows) (z := it) hr.u1 (ev_ixM (P := fdM K m.rows) (i := 1) (ev_var (P := matM K m) 0 rfl ((matM K m).mono x3.b h1')) ev_int rfl) (ev_var (P := dt K (eS it)) 5 rfl (dp_same x3.b hvv)) hin) (ev_var (P := dt K (eN here)) 3 rfl (dp_same x3.b ph)) ?_) fun v5 B4 H4 x4 p5 => b_nil (b_nil ⟨B4, x3.b.trans x4.b, x4.s, v5, stp m.mac it here, sv, some v, seen, rfl, x2'.trans (x3.trans x4), p5, dp_same x4.b (dp_same x3.b ps), hM.stp_lt hin hlt, by omega, ?_⟩))
        · show ((m.mac.mv it).map eN)[here]? = some (eN ((m.mac.mv it).getD here 0))
          rw [List.getElem?_map, List.getD_eq_getElem?_getD, List.getElem?_eq_getElem (by omega)]
          rfl
        · rw [ew, hw]
    · subst e
      rw [List.drop_length] at ew
      have e2 : eW (way m.mac s0 l) = .tuple [eTI seen, eN here] := by
        rw [ew]
        show PyData.tuple [eTI (seen ++ []), eN here] = _
        rw [List.append_nil]
      refine b_cons (s_retD x' (EV.is (ev_tup (X := fxLw P w K mg base z) (ds := [eTI seen, eN here]) (ea_cons (ev_var 4 rfl ps) (ea_cons (ev_var 3 rfl ph) ea_nil)) (show 2 ≤ 100000 by decide)) e2.symm))
abbrev fxLm (P : Program) (w : World) (K : PySem.W.Frag) (mg : Str → Option Value) (base : Heap) (z : Fz) : Cx := fx P w K mg base sLm "_law_marks" (topS 62) z
theorem ok_lm (L : Bl mg) (Gk : Gf P w K mg base 1 "_law_kinds" (spKd K)) (Gw : Gf P w K mg base 1 "_law_way" (spLw K)) (D : Gd K mg "_law_marks" (topS 62) []) : Gf P w K mg base 2 "_law_marks" (spLm K) :=
  D.pure (k := 1) scLm (fun _ => rfl) (fun _ _ _ _ _ _ us hl => match us, hl with | [_, _], _ => rfl) fun z vs B ⟨m, l⟩ hp ha sb hr => by
    obtain ⟨va, vb, rfl, h1, h2⟩ := allM2 ha
    obtain ⟨hm, hl⟩ : m.Ok ∧ LogOk m.mac l := hp
    have n4 := hm.n4
    refine b_cons (s_set (P := dt K (eLN (marks m.mac))) 2 scLm.nd sb (ev_call m Gk hr (ea_cons (ev_var (P := matM K m) 0 rfl h1) ea_nil) hm) fun v2 B1 H1 x1 p2 => ?_)
    refine b_cons (s_lcM (X := fxLm P w K mg base z) (i := 3) (own := [("_law_k", 4)]) (its := List.range m.n) (g := fun k => eW (way m.mac k l)) rfl scLm.nd rfl rfl rfl (blkOk_by (N := sLm) (sc := defScope (topS 62)) (by decide +kernel)) (sn_range (n := m.n) L.range (ev_ixM (P := dt K (eN m.n)) (i := 0) (ev_var (P := matM K m) 0 rfl ((matM K m).mono x1.b h1)) ev_int rfl) (by omega)) (by rw [List.length_range]; omega) (fun k hk B' s v hv => ⟨[some va, some vb, some v2, none, some v, none, none], rfl, fun zz H' s' => tj_name 4 scLm.nd, fun zz => ev_cal (X := bx (fxLm P w K mg base z) _ zz) (t := (m, k, l)) Gw hr (ea_cons (ev_var (P := matM K m) 0 rfl ((matM K m).mono (x1.b.trans s) h1)) (ea_cons (ev_var (P := dt K (eN k)) 4 rfl hv) (ea_cons (ev_var (P := dt K (eTS l)) 1 rfl (dp_same (x1.b.trans s) h2)) ea_nil))) ⟨hm, List.mem_range.mp hk, hl⟩⟩) x1.s fun v3 B2 H2 x2 p3 => ?_)
    have p3 : Dp K B2 v3 (.list (((List.range m.n).map fun k => way m.mac k l).map eW)) := by
      rw [List.map_map]
      exact p3
    refine b_cons (s_retD (x1.trans x2) (EV.is (ev_lcM (X := fxLm P w K mg base z) (own := [("_law_seen_so", 5), ("_law_end_so", 6)]) (its := (List.range m.n).map fun k => way m.mac k l) (g := fun r => eW (r.1, (marks m.mac).getD r.2 0)) rfl scLm.nd (blkOk_by (N := sLm) (sc := defScope (topS 62)) (by decide +kernel)) (sn_enc (sn_list (ev_var (P := dt K (.list (((List.range m.n).map fun k => way m.mac k l).map eW))) 3 rfl p3))) (by rw [List.length_map, List.length_range]; omega) fun r hr2 B' s v hv => ?_) ?_))
    · obtain ⟨T, a, b, rfl, ht, pa, pb⟩ := dp_t2 (show Dp K B' v (.tuple [eTI r.1, eN r.2]) from hv)
      obtain ⟨k, hk, rfl⟩ := List.mem_map.mp hr2
      have hlt : (way m.mac k l).2 < m.n := way_lt hm.mac (fun x hx => hl.mem x hx) (List.mem_range.mp hk)
      have hml := marks_len (M := m.mac) hm.mac.sl
      refine ⟨[some va, some vb, some v2, some v3, none, some a, some b], rfl, fun zz H' s' => tj_two 5 6 rfl scLm.nd (same_t s' ht), fun zz => ev_tup (X := bx (fxLm P w K mg base z) _ zz) (ds := [eTI (way m.mac k l).1, eN ((marks m.mac).getD (way m.mac k l).2 0)]) (ea_cons (ev_var (P := dt K (eTI (way m.mac k l).1)) 5 rfl pa) (ea_cons (ev_ixL (i := (way m.mac k l).2) (ev_var (P := dt K (eLN (marks m.mac))) 2 rfl (dp_same (x2.b.trans s) p2)) (ev_var (P := dt K (eN (way m.mac k l).2)) 6 rfl pb) ?_) ea_nil)) (show 2 ≤ 100000 by decide)⟩
      have hml2 : (marks m.mac).length = m.n := hml
      rw [List.getElem?_map, List.getD_eq_getElem?_getD, List.getElem?_eq_getElem (by omega)]
      rfl
    · show PyData.list _ = PyData.list _
      unfold marked
      rw [List.map_map, List.map_map]
      rfl
theorem plain_eMk (M : Mac) (l : Log) (n : Nat) : plain (n + 3) (eMk M l) = true := plainAll_map (n := n + 2) fun r _ => plain_eW n r
theorem inj_eMk {M : Mac} {a b : Log} : eMk M a = eMk M b ↔ marked M a = marked M b := by
  constructor
  · intro h
    injection h with h
    have key : ∀ {x y : List (List Int × Nat)}, x.map eW = y.map eW → x = y := by
      intro x
      induction x with
      | nil =>
        intro y h
        cases y with
        | nil => rfl
        | cons => cases h
      | cons c x ih =>
        intro y h
        cases y with
        | nil => cases h
        | cons d y =>
          rw [List.map_cons, List.map_cons] at h
          injection h with h1 h2
          rw [ih h2, inj_eW h1]
    exact key h
  · intro h
    show PyData.list _ = PyData.list _
    rw [h]
theorem ok_le (Gm : Gf P w K mg base 2 "_law_marks" (spLm K)) (D : Gd K mg "_law_equal" (topS 63) []) : Gf P w K mg base 3 "_law_equal" (spLe K) :=
  D.pure (k := 2) scLe (fun _ => rfl) (fun _ _ _ _ _ _ us hl => match us, hl with | [_, _, _], _ => rfl) fun z vs B ⟨m, l, l'⟩ hp ha sb hr => by
    obtain ⟨va, vb, vc, rfl, h1, h2, h3⟩ := allM3 ha
    obtain ⟨hm, hl, hl'⟩ : m.Ok ∧ LogOk m.mac l ∧ LogOk m.mac l' := hp
    refine b_cons (s_retD (Nx.refl sb) (ev_eq (X := fx P w K mg base sLe "_law_equal" (topS 63) z) (n := 3) (m := 3) (q := marked m.mac l = marked m.mac l') hr.u64 (ev_call (m, l) Gm hr (ea_cons (ev_var (P := matM K m) 0 rfl h1) (ea_cons (ev_var (P := dt K (eTS l)) 1 rfl h2) ea_nil)) ⟨hm, hl⟩) (ev_call (m, l') Gm hr (ea_cons (ev_var (P := matM K m) 0 rfl h1) (ea_cons (ev_var (P := dt K (eTS l')) 2 rfl h3) ea_nil)) ⟨hm, hl'⟩) (plain_eMk _ _ 0) (plain_eMk _ _ 0) (by decide) (by decide) inj_eMk))
theorem ok_wo (L : Bl mg) (D : Gd K mg "_law_without" (topS 68) []) : Gf P w K mg base 1 "_law_without" (spWo K) :=
  D.pure (k := 0) scWo (fun _ => rfl) (fun _ _ _ _ _ _ us hl => match us, hl with | [_, _], _ => rfl) fun z vs B ⟨l, ps⟩ hp ha sb hr => by
    obtain ⟨va, vb, rfl, h1, h2⟩ := allM2 ha
    have hp : l.length ≤ 300 := hp
    refine b_cons (s_retD (Nx.refl sb) (EV.is (ev_tupleL (X := fx P w K mg base sWo "_law_without" (topS 68) z) L.tuple (ev_lc (own := [("_law_k", 2), ("_law_own", 3)]) (f := fun q : Str × Nat => !decide (q.2 ∈ ps)) (g := fun q => eS q.1) rfl scWo.nd (blkOk_by (N := sWo) (sc := defScope (topS 68)) (by decide +kernel)) (sn_encE (sn_enumT L.enum (ev_var 0 rfl h1))) (by rw [List.length_zipIdx]; omega)
      fun q hq B' s v' ⟨t, x, y, e, hT, hx, hy⟩ => ?_)) ?_))
    · subst e
      exact ⟨[some va, some vb, some x, some y], rfl, fun z H' s' => tj_pair 2 3 rfl scWo.nd (s' _ _ hT), fun z => ets_one (et_notIn (q := q.2 ∈ ps) (ev_var 2 rfl hx) (ev_var 1 rfl (dp_same s h2) : EV _ _ _ _ (dt K _)).ofT rfl (flat_eN _) mem_eN), fun _ z => ev_var 3 rfl hy⟩
    · exact congrArg PyData.tuple (mapc _ _ _)
abbrev fxTe (P : Program) (w : World) (K : PySem.W.Frag) (mg : Str → Option Value) (base : Heap) (z : Fz) : Cx := fx P w K mg base sTe "_law_tells" (topS 69) z
theorem ok_te (Gm : Gf P w K mg base 2 "_law_marks" (spLm K)) (D : Gd K mg "_law_tells" (topS 69) []) : Gf P w K mg base 3 "_law_tells" (spTe K) :=
  D.pure (k := 2) scTe (fun _ => rfl) (fun _ _ _ _ _ _ us hl => match us, hl with | [_, _, _, _], _ => rfl) fun z vs B ⟨m, l, l', st⟩ hp ha sb hr => by
    obtain ⟨va, vb, vc, vd, rfl, h1, h2, h3, h4⟩ := allM4 ha
    obtain ⟨hm, hl, hl', hst, hsl⟩ : m.Ok ∧ LogOk m.mac l ∧ LogOk m.mac l' ∧ (∀ s ∈ st, s < m.n) ∧ st.length ≤ 10 := hp
    refine b_cons (s_parT (d1 := eMk m.mac l) (d2 := eMk m.mac l') 4 5 rfl scTe.nd sb (ea_cons (ev_call (m, l) Gm hr (ea_cons (ev_var (P := matM K m) 0 rfl h1) (ea_cons (ev_var (P := dt K (eTS l)) 1 rfl h2) ea_nil)) ⟨hm, hl⟩) (ea_cons (ev_call (m, l') Gm hr (ea_cons (ev_var (P := matM K m) 0 rfl h1) (ea_cons (ev_var (P := dt K (eTS l')) 2 rfl h3) ea_nil)) ⟨hm, hl'⟩) ea_nil)) fun v4 v5 B1 H1 x1 p4 p5 => ?_)
    refine b_cons (s_retD x1 (EV.is (ev_lc (X := fxTe P w K mg base z) (own := [("_law_k", 6)]) (its := st) (f := fun s => !decide (markedAt m.mac l s = markedAt m.mac l' s)) (g := eN) rfl scTe.nd (blkOk_by (N := sTe) (sc := defScope (topS 69)) (by decide +kernel)) (sn_enc (sn_tup (ev_var 3 rfl (dp_same x1.b h4)))) (by omega) fun s hs B' s' v hv => ?_) rfl))
    have at' : ∀ l, ((marked m.mac l).map eW)[s]? = some (eW (markedAt m.mac l s)) := fun l => by
      unfold marked
      rw [List.getElem?_map, List.getElem?_map, List.getElem?_range (show s < m.mac.n from hst s hs)]
      rfl
    exact ⟨[some va, some vb, some vc, some vd, some v4, some v5, some v], rfl, fun zz H' s2 => tj_name 6 scTe.nd, fun zz => ets_one (et_ne (X := bx (fxTe P w K mg base z) _ zz) (n := 2) (m := 2) (q := markedAt m.mac l s = markedAt m.mac l' s) hr.u64 (ev_ixL (i := s) (ev_var (P := dt K (eMk m.mac l)) 4 rfl (dp_same s' p4)) (ev_var (P := dt K (eN s)) 6 rfl hv) (at' l)) (ev_ixL (i := s) (ev_var (P := dt K (eMk m.mac l')) 5 rfl (dp_same s' p5)) (ev_var (P := dt K (eN s)) 6 rfl hv) (at' l')) (plain_eW 0 _) (plain_eW 0 _) (by decide) (by decide) ⟨inj_eW, fun e => by rw [e]⟩), fun _ zz => ev_var 6 rfl hv⟩
end
end K7
/-! _law_stays, _law_goes. -/
namespace K7
set_option pp.maxSteps 300
open PySem PySem.Spec PyProof.Rows L2
abbrev sSy : List Str := ["_law_mat", "_law_log_so", "_law_found", "_law_k", "_law_own"]
theorem scSy : FnScope sSy ["_law_mat", "_law_log_so"] (defScope (topS 66)) := ⟨rfl, rfl, rfl, by decide +kernel, rfl, by decide +kernel, by decide +kernel⟩
abbrev fSy (M : Mac) (l : Log) (k : Nat) : Bool := decide (l.getD k look = look) || !decide (marked M (l.drop k) = marked M (l.drop (k + 1)))
abbrev spSy (K : PySem.W.Frag) : Sp := spD (fun t : Mt × Log => [matM K t.1, dt K (eTS t.2)]) (fun t => t.1.Ok ∧ LogOk t.1.mac t.2) fun t => dt K (eTN ((List.range t.2.length).filter (fSy t.1.mac t.2)))
abbrev sGs : List Str := ["_law_mat", "_law_log_so", "_law_states_so", "_law_found", "_law_k", "_law_own"]
theorem scGs : FnScope sGs ["_law_mat", "_law_log_so", "_law_states_so"] (defScope (topS 70)) := ⟨rfl, rfl, rfl, by decide +kernel, rfl, by decide +kernel, by decide +kernel⟩
abbrev fGs (M : Mac) (l : Log) (st : List Nat) (k : Nat) : Bool := !decide (l.getD k look = look) && decide (tells M l (without l [k]) st = [])
abbrev spGs (K : PySem.W.Frag) : Sp := spD (fun t : Mt × Log × List Nat => [matM K t.1, dt K (eTS t.2.1), dt K (eTN t.2.2)]) (fun t => t.1.Ok ∧ LogOk t.1.mac t.2.1 ∧ (∀ s ∈ t.2.2, s < t.1.n) ∧ t.2.2.length ≤ 10) fun t => dt K (eTN ((List.range t.2.1.length).filter (fGs t.1.mac t.2.1 t.2.2)))
theorem cut_from {l : Log} {k : Nat} : cutD l (some k) none = l.drop k := by
  unfold cutD
  rw [Option.getD_some, Option.getD_none, List.take_length]
theorem range_take {n i : Nat} (h : i < n) : (List.range n).take (i + 1) = (List.range n).take i ++ [i] := by
  rw [List.take_add_one, List.getElem?_range h]
  rfl
theorem filt_step {n i : Nat} {f : Nat → Bool} (h : i < n) : ((List.range n).take (i + 1)).filter f = ((List.range n).take i).filter f ++ (if f i = true then [i] else []) := by
  rw [range_take h, List.filter_append]
  congr 1
  by_cases hf : f i = true <;> simp [hf]
section
variable {P : Program} {w : World} {K : PySem.W.Frag} {mg : Str → Option Value} {base : Heap}
abbrev fxSy (P : Program) (w : World) (K : PySem.W.Frag) (mg : Str → Option Value) (base : Heap) (z : Fz) : Cx := fx P w K mg base sSy "_law_stays" (topS 66) z
theorem ok_sy (L : Bl mg) (Ge : Gf P w K mg base 3 "_law_equal" (spLe K)) (D : Gd K mg "_law_stays" (topS 66) []) : Gf P w K mg base 4 "_law_stays" (spSy K) :=
  D.pure (k := 3) scSy (fun _ => rfl) (fun _ _ _ _ _ _ us hl => match us, hl with | [_, _], _ => rfl) fun z vs B ⟨m, l⟩ hp ha sb hr => by
    obtain ⟨va, vb, rfl, h1, h2⟩ := allM2 ha
    obtain ⟨hm, hl⟩ : m.Ok ∧ LogOk m.mac l := hp
    have hl2 := hl.len
    refine b_cons (s_new 2 scSy.nd fun p hp => ?_)
    have bp : B p = none := same_no sb hp
    refine b_cons (s_for (X := fxSy P w K mg base z) PassesOwn.never rfl (sn_encE (sn_enumT L.enum (ev_var 1 rfl h2))) (same_over sb bp)
      (fun i σ' B' H' => ∃ o3 o4 acc, σ' = [some va, some vb, some (.ref p), o3, o4] ∧ Nx B z.H B' H' ∧ B' p = none ∧ H' p = some (.lst acc) ∧ DpAll K B' acc ((((List.range l.length).take i).filter (fSy m.mac l)).map eN))
      (fun B2 H2 x2 => ⟨none, none, [], rfl, ((Nx.refl sb).hid hp bp).trans x2, x2.off upd_same bp, x2.h _ _ upd_same, .nil⟩)
      (fun i it σ' B' H' B2 H2 v hi ⟨o3, o4, acc, e, x', bp', hacc, hda⟩ x2 hv => ?_) fun σ' B' H' s1 s2 ⟨o3, o4, acc, e, x', bp', hacc, hda⟩ => ?_)
    · subst e
      obtain ⟨T, a, b, rfl, hT, pa, pb⟩ := hv
      obtain ⟨x, j⟩ := it
      obtain ⟨rfl, hx⟩ := zip_at hi
      obtain rfl := dp_i pa
      have hj : j < l.length := (List.getElem?_eq_some_iff.mp hx).1
      have hgd : l.getD j look = x := by rw [List.getD_eq_getElem?_getD, hx]; rfl
      refine ⟨_, tj_pair 3 4 rfl scSy.nd (x2.s _ _ hT), ?_⟩
      have x2' := x'.trans x2
      have h1' := (matM K m).mono x2'.b h1
      have h2' := dp_same x2'.b h2
      have hda2 := dpa_same x2.b hda
      have hacc2 := x2.h _ _ hacc
      have bp2 := x2.off hacc bp'
      have hal : acc.length < 100000 := by
        have h3 := dpa_len hda
        rw [List.length_map] at h3
        have h4 := List.length_filter_le (fSy m.mac l) ((List.range l.length).take j)
        rw [List.length_take, List.length_range] at h4
        omega
      have sl : ∀ (B' : Hp) {k : Nat} {e : Expr} {p1 p2 p3 : Pos}, Same B2 B' → EV (fxSy P w K mg base z) e [some va, some vb, some (.ref p), some (.int (j : Int)), some b] B' (dt K (eN k)) → EV (fxSy P w K mg base z) (.Subscript (.Name "_law_log_so" p1) (.Slice (some e) none none p2) p3) [some va, some vb, some (.ref p), some (.int (j : Int)), some b] B' (dt K (eTS (l.drop k))) := fun B' k e p1 p2 p3 s he => EV.is (ev_slT (ev_var (P := dt K (eTS l)) 1 rfl (dp_same s h2')) (eo_yes he) eo_no) (by rw [cut_map, cut_from])
      refine b_cons (s_if (X := fxSy P w K mg base z) (b := fSy m.mac l j) x2.s (ET.is (et_or (et_eqS (ev_var (P := dt K (eS x)) 4 rfl pb) ev_str) (fun _ => et_not (et_val (ev_call (m, l.drop j, l.drop (j + 1)) Ge hr (ea_cons (ev_var (P := matM K m) 0 rfl h1') (ea_cons (sl B2 (Same.refl _) (ev_var (P := dt K (eN j)) 3 rfl (.int _))) (ea_cons (sl B2 (k := j + 1) (Same.refl _) (EV.is (ev_add (ev_var (P := dt K (eN j)) 3 rfl (.int _)) ev_int) rfl)) ea_nil))) ⟨hm, hl.drop _, hl.drop _⟩)))) (by show _ = (decide (l.getD j look = look) || !decide (marked m.mac (l.drop j) = marked m.mac (l.drop (j + 1)))); rw [hgd])) (fun hb B3 H3 x3 => ?_) fun hb B3 H3 x3 => ?_)
      · refine b_cons (s_app (P := dt K (eN j)) 2 x3.s rfl (x3.h _ _ hacc2) hal (ev_var (P := dt K (eN j)) 3 rfl (.int _)) fun v4 B4 H4 x4 p4 => ?_)
        have bp4 := x4.off (x3.h _ _ hacc2) (x3.off hacc2 bp2)
        refine b_nil (b_nil ⟨B4, x3.b.trans x4.b, same_over x4.s bp4, _, _, acc ++ [v4], rfl, (x2'.trans (x3.trans x4)).hid hp bp4, bp4, upd_same, ?_⟩)
        rw [filt_step hj, if_pos hb, List.map_append]
        exact dpa_snoc (dpa_same (x3.b.trans x4.b) hda2) p4
      · refine b_nil (b_nil ⟨B3, x3.b, x3.s, _, _, acc, rfl, x2'.trans x3, x3.off hacc2 bp2, x3.h _ _ hacc2, ?_⟩)
        rw [filt_step hj, if_neg (by rw [hb]; exact Bool.false_ne_true), List.append_nil]
        exact dpa_same x3.b hda2
    · subst e
      have y := x'.see hp bp' hacc
      rw [List.length_zipIdx, List.take_of_length_le (by rw [List.length_range]; exact Nat.le_refl _)] at hda
      exact b_cons (s_retD y (ev_tupleL L.tuple (ev_var (P := dt K (.list (((List.range l.length).filter (fSy m.mac l)).map eN))) 2 rfl (.lst (.inl (.inl upd_same)) (dpa_same (same_new bp') hda)))))
abbrev fxGs (P : Program) (w : World) (K : PySem.W.Frag) (mg : Str → Option Value) (base : Heap) (z : Fz) : Cx := fx P w K mg base sGs "_law_goes" (topS 70) z
theorem ok_gs (L : Bl mg) (Gt : Gf P w K mg base 3 "_law_tells" (spTe K)) (Gw : Gf P w K mg base 1 "_law_without" (spWo K)) (D : Gd K mg "_law_goes" (topS 70) []) : Gf P w K mg base 4 "_law_goes" (spGs K) :=
  D.pure (k := 3) scGs (fun _ => rfl) (fun _ _ _ _ _ _ us hl => match us, hl with | [_, _, _], _ => rfl) fun z vs B ⟨m, l, st⟩ hp ha sb hr => by
    obtain ⟨va, vb, vc, rfl, h1, h2, h3⟩ := allM3 ha
    obtain ⟨hm, hl, hst, hst10⟩ : m.Ok ∧ LogOk m.mac l ∧ (∀ s ∈ st, s < m.n) ∧ st.length ≤ 10 := hp
    have hl2 := hl.len
    refine b_cons (s_new 3 scGs.nd fun p hp => ?_)
    have bp : B p = none := same_no sb hp
    refine b_cons (s_for (X := fxGs P w K mg base z) PassesOwn.never rfl (sn_encE (sn_enumT L.enum (ev_var 1 rfl h2))) (same_over sb bp)
      (fun i σ' B' H' => ∃ o3 o4 acc, σ' = [some va, some vb, some vc, some (.ref p), o3, o4] ∧ Nx B z.H B' H' ∧ B' p = none ∧ H' p = some (.lst acc) ∧ DpAll K B' acc ((((List.range l.length).take i).filter (fGs m.mac l st)).map eN))
      (fun B2 H2 x2 => ⟨none, none, [], rfl, ((Nx.refl sb).hid hp bp).trans x2, x2.off upd_same bp, x2.h _ _ upd_same, .nil⟩)
      (fun i it σ' B' H' B2 H2 v hi ⟨o3, o4, acc, e, x', bp', hacc, hda⟩ x2 hv => ?_) fun σ' B' H' s1 s2 ⟨o3, o4, acc, e, x', bp', hacc, hda⟩ => ?_)
    · subst e
      obtain ⟨T, a, b, rfl, hT, pa, pb⟩ := hv
      obtain ⟨x, j⟩ := it
      obtain ⟨rfl, hx⟩ := zip_at hi
      obtain rfl := dp_i pa
      have hj : j < l.length := (List.getElem?_eq_some_iff.mp hx).1
      have hgd : l.getD j look = x := by rw [List.getD_eq_getElem?_getD, hx]; rfl
      refine ⟨_, tj_pair 4 5 rfl scGs.nd (x2.s _ _ hT), ?_⟩
      have x2' := x'.trans x2
      have h1' := (matM K m).mono x2'.b h1
      have h2' := dp_same x2'.b h2
      have h3' := dp_same x2'.b h3
      have hda2 := dpa_same x2.b hda
      have hacc2 := x2.h _ _ hacc
      have bp2 := x2.off hacc bp'
      have hal : acc.length < 100000 := by
        have h3 := dpa_len hda
        rw [List.length_map] at h3
        have h4 := List.length_filter_le (fGs m.mac l st) ((List.range l.length).take j)
        rw [List.length_take, List.length_range] at h4
        omega
      refine b_cons (s_if (X := fxGs P w K mg base z) (b := fGs m.mac l st j) x2.s (ET.is (et_and (et_neS (ev_var (P := dt K (eS x)) 5 rfl pb) ev_str) (fun _ => et_eq (n := 1) (m := 1) (q := tells m.mac l (without l [j]) st = []) hr.u64 (ev_call (m, l, without l [j], st) Gt hr (ea_cons (ev_var (P := matM K m) 0 rfl h1') (ea_cons (ev_var (P := dt K (eTS l)) 1 rfl h2') (ea_cons (ev_call (l, [j]) Gw (hr.mono (by decide)) (ea_cons (ev_var (P := dt K (eTS l)) 1 rfl h2') (ea_cons (ev_tup (ds := [eN j]) (ea_cons (ev_var (P := dt K (eN j)) 4 rfl (.int _)) ea_nil) (show 1 ≤ 100000 by decide)) ea_nil)) (by show l.length ≤ 300; omega)) (ea_cons (ev_var (P := dt K (eTN st)) 2 rfl h3') ea_nil)))) ⟨hm, hl, hl.without _, hst, hst10⟩) (ev_lst (ds := []) ea_nil) (plain_eLN 0 _) rfl (by decide) (by decide) (by simp))) (by show _ = (!decide (l.getD j look = look) && decide (tells m.mac l (without l [j]) st = [])); rw [hgd])) (fun hb B3 H3 x3 => ?_) fun hb B3 H3 x3 => ?_)
      · refine b_cons (s_app (P := dt K (eN j)) 3 x3.s rfl (x3.h _ _ hacc2) hal (ev_var (P := dt K (eN j)) 4 rfl (.int _)) fun v4 B4 H4 x4 p4 => ?_)
        have bp4 := x4.off (x3.h _ _ hacc2) (x3.off hacc2 bp2)
        refine b_nil (b_nil ⟨B4, x3.b.trans x4.b, same_over x4.s bp4, _, _, acc ++ [v4], rfl, (x2'.trans (x3.trans x4)).hid hp bp4, bp4, upd_same, ?_⟩)
        rw [filt_step hj, if_pos hb, List.map_append]
        exact dpa_snoc (dpa_same (x3.b.trans x4.b) hda2) p4
      · refine b_nil (b_nil ⟨B3, x3.b, x3.s, _, _, acc, rfl, x2'.trans x3, x3.off hacc2 bp2, x3.h _ _ hacc2, ?_⟩)
        rw [filt_step hj, if_neg (by rw [hb]; exact Bool.false_ne_true), List.append_nil]
        exact dpa_same x3.b hda2
    · subst e
      have y := x'.see hp bp' hacc
      rw [List.length_zipIdx, List.take_of_length_le (by rw [List.length_range]; exact Nat.le_refl _)] at hda
      exact b_cons (s_retD y (ev_tupleL L.tuple (ev_var (P := dt K (.list (((List.range l.length).filter (fGs m.mac l st)).map eN))) 3 rfl (.lst (.inl (.inl upd_same)) (dpa_same (same_new bp') hda)))))
end
end K7
/-! _law_is_part. -/
namespace K7
set_option pp.maxSteps 300
open PySem PySem.Spec PyProof.Rows L2
section
variable {X : Cx} {ι : Type} {elt tg iter a b : Expr} {ifs : List Expr} {scope : Scope} {own : List (Str × Nat)} {pos : Pos} {σ : L2.St} {B H : Hp} {its : List ι} {S : ι → Mp} {f : ι → Bool} {g : ι → PyData}
/-- y = [..], a fresh list -/
theorem s_lcN {i : Nat} {y : Str} {py spos : Pos} {D : Ends} (hc : X.calm = true) (hN : X.N.Nodup) (hy : X.N[i]? = some y) (hyl : X.env.scope.names.lookup y = some .local) (hsw : swapsWith (.ListComp elt [⟨tg, iter, ifs, 0⟩] scope pos) (some (.Name y py)) spos.line X.env = pure true)
    (ok : BlkOk X.N X.env.scope scope own) (src : SN X tg iter σ B its S) (hz : its.length ≤ 100000) (turn : ∀ it ∈ its, Turn1 X scope (own.map (·.2)) tg elt ifs σ B S f g it) (sb : Same B H)
    (k : ∀ v B1 H1, Nx B H B1 H1 → (nlM X.K ((its.filter f).map g)).p v B1 → D.nx (σ.set i (some v)) H1) (hs : ∀ x, foldedSetIterable iter X.env x = pure x := by intro _; rfl) : wS X (.Assign [.Name y py] (.ListComp elt [⟨tg, iter, ifs, 0⟩] scope pos) spos) D σ H :=
  s_of (ps_setLc (g := wGz X scope tg) (tt := wTz X scope ifs) (te := wEz X scope elt) hc hN hy hyl hsw pi_w ok (fun s H C cl fp => ⟨fun pins s' σ' H' v u Q I r h => wG_o (h ⟨s, H, C, cl, fp⟩) pins s' u I r⟩)
      (fun s H C cl fp => ⟨fun pins s' σ' H' Q I h => wTs_o (h ⟨s, H, C, cl, fp⟩) pins s' I⟩) (fun s H C cl fp => ⟨fun pins s' σ' H' Q I h => wE_o (h ⟨s, H, C, cl, fp⟩) pins s' I⟩) hs)
    (src H sb _ fun J B1 H1 x1 w D hD => lc_read hz x1.b x1.s w hD turn fun B' H' acc x hl bD hda => k _ (upd B' D (.lst acc)) H' (x1.trans (x.see hD bD hl)) ⟨D, acc, rfl, upd_same, dpa_same (same_new bD) hda⟩)
end
/-- the spots after one more deed -/
def laterP (part : Log) (x : Str) (sp : List Nat) : List Nat := (sp.filter fun k => decide (part[k]? = some x)).map (· + 1)
def stepP (part : Log) (sp : List Nat) (x : Str) : List Nat := if x = look then laterP part x sp else sp ++ (laterP part x sp).filter fun k => !decide (k ∈ sp)
theorem stepP_len {part : Log} {sp : List Nat} {x : Str} : (stepP part sp x).length ≤ 2 * sp.length := by
  have h1 : (laterP part x sp).length ≤ sp.length := by
    unfold laterP
    rw [List.length_map]
    exact List.length_filter_le _ _
  unfold stepP
  split
  · omega
  · rw [List.length_append]
    have := List.length_filter_le (fun k => !decide (k ∈ sp)) (laterP part x sp)
    omega
/-- where the walk may stand -/
def AtP (part : Log) (rest : Log) (sp : List Nat) : Prop := ∃ k ∈ sp, k ≤ part.length ∧ Part rest (part.drop k)
theorem atP_step {part rest : Log} {x : Str} {sp : List Nat} (h : AtP part (x :: rest) sp) : AtP part rest (stepP part sp x) := by
  obtain ⟨k, hk, hle, hp⟩ := h
  generalize hd : part.drop k = q at hp
  cases hp with
  | keep _ h2 =>
    rename_i p
    have hkl : k < part.length := by
      have := congrArg List.length hd
      rw [List.length_drop, List.length_cons] at this
      omega
    have hx : part[k]? = some x := by
      have := congrArg (·[0]?) hd
      simpa using this
    have hd2 : part.drop (k + 1) = p := by
      have := congrArg List.tail hd
      rwa [List.tail_drop, List.tail_cons] at this
    have hl : k + 1 ∈ laterP part x sp := List.mem_map.mpr ⟨k, List.mem_filter.mpr ⟨hk, decide_eq_true hx⟩, rfl⟩
    refine ⟨k + 1, ?_, hkl, by rw [hd2]; exact h2⟩
    unfold stepP
    split
    · exact hl
    · by_cases hm : k + 1 ∈ sp
      · exact List.mem_append_left _ hm
      · exact List.mem_append_right _ (List.mem_filter.mpr ⟨hl, by simp [hm]⟩)
  | drop hne h2 =>
    refine ⟨k, ?_, hle, by rw [hd]; exact h2⟩
    unfold stepP
    rw [if_neg hne]
    exact List.mem_append_left _ hk
theorem atP_end {part : Log} {sp : List Nat} (h : AtP part [] sp) : part.length ∈ sp := by
  obtain ⟨k, hk, hle, hp⟩ := h
  generalize hd : part.drop k = q at hp
  cases hp
  have := congrArg List.length hd
  rw [List.length_drop, List.length_nil] at this
  have e : k = part.length := by omega
  rwa [← e]
theorem cut_one {l : Log} {k : Nat} : cutD l (some k) (some (k + 1)) = (l[k]?).toList := by
  unfold cutD
  rw [Option.getD_some, Option.getD_some]
  cases h : l[k]? with
  | none =>
    have := List.getElem?_eq_none_iff.mp h
    rw [List.drop_of_length_le (by rw [List.length_take]; omega)]
    rfl
  | some x =>
    obtain ⟨hk, hx⟩ := List.getElem?_eq_some_iff.mp h
    rw [List.take_add_one, h, List.drop_append_of_le_length (by rw [List.length_take]; omega), List.drop_of_length_le (by rw [List.length_take]; omega)]
    rfl
abbrev sPt : List Str := ["_law_log_so", "_law_part_so", "_law_spots_so", "_law_own", "_law_later_so", "_law_fresh", "_law_k"]
theorem scPt : FnScope sPt ["_law_log_so", "_law_part_so"] (defScope (topS 65)) := ⟨rfl, rfl, rfl, by decide +kernel, rfl, by decide +kernel, by decide +kernel⟩
abbrev spPt (K : PySem.W.Frag) : Sp := spD (fun t : Log × Log => [dt K (eTS t.1), dt K (eTS t.2)]) (fun t => Part t.1 t.2 ∧ t.1.length ≤ 10 ∧ (∀ x ∈ t.1, PyData.canLay0 (.str x) = true) ∧ ∀ x ∈ t.2, PyData.canLay0 (.str x) = true) fun _ => dt K (.bool true)
theorem plain_lg {l : Log} (h : ∀ x ∈ l, PyData.canLay0 (.str x) = true) (n : Nat) : plain (n + 1) (eTS l) = true := plainAll_map (n := n) fun x hx => by
  have := h x hx
  cases n <;> exact this
section
variable {P : Program} {w : World} {K : PySem.W.Frag} {mg : Str → Option Value} {base : Heap}
abbrev fxPt (P : Program) (w : World) (K : PySem.W.Frag) (mg : Str → Option Value) (base : Heap) (z : Fz) : Cx := fx P w K mg base sPt "_law_is_part" (topS 65) z
set_option maxHeartbeats 1000000 in
theorem ok_pt (L : Bl mg) (D : Gd K mg "_law_is_part" (topS 65) []) : Gf P w K mg base 1 "_law_is_part" (spPt K) :=
  D.pure (k := 0) scPt (fun _ => rfl) (fun _ _ _ _ _ _ us hl => match us, hl with | [_, _], _ => rfl) fun z vs B ⟨l, part⟩ hp ha sb hr => by
    obtain ⟨va, vb, rfl, h1, h2⟩ := allM2 ha
    obtain ⟨hpt, hl10, hcl, hcp⟩ : Part l part ∧ l.length ≤ 10 ∧ (∀ x ∈ l, PyData.canLay0 (.str x) = true) ∧ ∀ x ∈ part, PyData.canLay0 (.str x) = true := hp
    refine b_cons (s_set (P := nlM K [eN 0]) 2 scPt.nd sb (ev_lstN (ds := [eN 0]) (ea_cons ev_int ea_nil) (show 1 ≤ 100000 by decide)) fun v2 B1 H1 x1 p2 => ?_)
    refine b_cons (s_for (X := fxPt P w K mg base z) PassesOwn.never rfl (sn_enc (sn_tup (ev_var 0 rfl (dp_same x1.b h1)))) x1.s
      (fun i σ' B' H' => ∃ sv o3 o4 o5 sp, σ' = [some va, some vb, some sv, o3, o4, o5, none] ∧ Nx B z.H B' H' ∧ (nlM K (sp.map eN)).p sv B' ∧ sp.length ≤ 2 ^ i ∧ AtP part (l.drop i) sp)
      (fun B2 H2 x2 => ⟨v2, none, none, none, [0], rfl, x1.trans x2, (nlM K [eN 0]).mono x2.b p2, by simp, 0, by simp, Nat.zero_le _, by rw [List.drop_zero, List.drop_zero]; exact hpt⟩)
      (fun i it σ' B' H' B2 H2 v hi ⟨sv, o3, o4, o5, sp, e, x', psp, hsl, hat⟩ x2 hv => ?_) fun σ' B' H' s1 s2 ⟨sv, o3, o4, o5, sp, e, x', psp, hsl, hat⟩ => ?_)
    · subst e
      have hi' : i < l.length := (List.getElem?_eq_some_iff.mp hi).1
      have hmem : it ∈ l := List.mem_of_getElem? hi
      have hp10 : 2 ^ i ≤ 2 ^ 10 := Nat.pow_le_pow_right (by decide) (by omega)
      have hsl2 : sp.length ≤ 1024 := by omega
      refine ⟨_, tj_name 3 scPt.nd, ?_⟩
      have x2' := x'.trans x2
      have psp2 := (nlM K (sp.map eN)).mono x2.b psp
      have h2' := dp_same x2'.b h2
      refine b_cons (s_lcN (X := fxPt P w K mg base z) (i := 4) (own := [("_law_k", 6)]) (its := sp) (f := fun k => decide (part[k]? = some it)) (g := fun k => eN (k + 1)) rfl scPt.nd rfl rfl rfl (blkOk_by (N := sPt) (sc := defScope (topS 65)) (by decide +kernel)) (sn_enc (sn_list (EV.nl (ev_var (P := nlM K (sp.map eN)) 2 rfl psp2)))) (by omega) (fun k hk B3 s3 v6 hv6 => ?_) x2.s fun v4 B3 H3 x3 p4 => ?_)
      · refine ⟨[some va, some vb, some sv, some v, o4, o5, some v6], rfl, fun zz H' s' => tj_name 6 scPt.nd, fun zz => ets_one (et_eq (X := bx (fxPt P w K mg base z) _ zz) (n := 1) (m := 1) (q := part[k]? = some it) hr.u64 (EV.is (d' := eTS ((part[k]?).toList)) (ev_slT (ev_var (P := dt K (eTS part)) 1 rfl (dp_same s3 h2')) (eo_yes (ev_var (P := dt K (eN k)) 6 rfl hv6)) (eo_yes (k := k + 1) (EV.is (ev_add (ev_var (P := dt K (eN k)) 6 rfl hv6) ev_int) rfl))) (by rw [cut_map, cut_one])) (ev_tup (ds := [eS it]) (ea_cons (ev_var (P := dt K (eS it)) 3 rfl (dp_same s3 hv)) ea_nil) (show 1 ≤ 100000 by decide)) (plain_lg (fun x hx => hcp x (List.mem_of_getElem? (Option.mem_toList.mp hx))) 0) (plain_lg (l := [it]) (fun x hx => by rw [List.mem_singleton.mp hx]; exact hcl it hmem) 0) (by decide) (by decide) ?_), fun _ zz => EV.is (ev_add (ev_var (P := dt K (eN k)) 6 rfl hv6) ev_int) rfl⟩
        cases h : part[k]? with
        | none => simp
        | some y => simp
      · have p4 : (nlM K ((laterP part it sp).map eN)).p v4 B3 := by
          unfold laterP
          rw [List.map_map]
          exact p4
        have psp3 := (nlM K (sp.map eN)).mono x3.b psp2
        change wB (fxPt P w K mg base z) _ _ [some va, some vb, some sv, some v, some v4, o5, none] _
        refine b_cons (s_lcN (X := fxPt P w K mg base z) (i := 5) (own := [("_law_k", 6)]) (its := laterP part it sp) (f := fun k => !decide (k ∈ sp)) (g := eN) rfl scPt.nd rfl rfl rfl (blkOk_by (N := sPt) (sc := defScope (topS 65)) (by decide +kernel)) (sn_enc (sn_list (EV.nl (ev_var (P := nlM K ((laterP part it sp).map eN)) 4 rfl p4)))) (by
          unfold laterP
          rw [List.length_map]
          have := List.length_filter_le (fun k => decide (part[k]? = some it)) sp
          omega) (fun k hk B4 s4 v6 hv6 => ⟨[some va, some vb, some sv, some v, some v4, o5, some v6], rfl, fun zz H' s' => tj_name 6 scPt.nd, fun zz => ets_one (et_notIn (X := bx (fxPt P w K mg base z) _ zz) (q := k ∈ sp) (ev_var (P := dt K (eN k)) 6 rfl hv6) (EV.nl (ev_var (P := nlM K (sp.map eN)) 2 rfl ((nlM K (sp.map eN)).mono s4 psp3))).ofL rfl (flat_eN _) mem_eN), fun _ zz => ev_var 6 rfl hv6⟩) x3.s fun v5 B4 H4 x4 p5 => ?_)
        have psp4 := (nlM K (sp.map eN)).mono x4.b psp3
        have p44 := (nlM K ((laterP part it sp).map eN)).mono x4.b p4
        change wB (fxPt P w K mg base z) _ _ [some va, some vb, some sv, some v, some v4, some v5, none] _
        refine b_cons (s_set (P := nlM K ((stepP part sp it).map eN)) 2 scPt.nd x4.s (ev_ite (et_eqS (ev_var (P := dt K (eS it)) 3 rfl (dp_same (x3.b.trans x4.b) hv)) ev_str) (fun hb => ?_) (fun hb => ?_)) fun v7 B5 H5 x5 p7 => ?_)
        · have hb := of_decide_eq_true hb
          unfold stepP
          rw [if_pos hb]
          exact ev_var (P := nlM K ((laterP part it sp).map eN)) 4 rfl p44
        · have hb := of_decide_eq_false hb
          unfold stepP
          rw [if_neg hb, List.map_append]
          have hlat : (laterP part it sp).length ≤ sp.length := by
            unfold laterP
            rw [List.length_map]
            exact List.length_filter_le _ _
          have hfl := List.length_filter_le (fun k => !decide (k ∈ sp)) (laterP part it sp)
          exact ev_cat (ev_var (P := nlM K (sp.map eN)) 2 rfl psp4) (ev_var (P := nlM K (((laterP part it sp).filter fun k => !decide (k ∈ sp)).map eN)) 5 rfl p5) (by rw [List.length_map, List.length_map]; omega)
        · refine b_nil ⟨B5, (x3.b.trans x4.b).trans x5.b, x5.s, v7, some v, some v4, some v5, stepP part sp it, rfl, x2'.trans (x3.trans (x4.trans x5)), p7, ?_, ?_⟩
          · have := stepP_len (part := part) (sp := sp) (x := it)
            rw [Nat.pow_succ]
            omega
          · rw [drop_at hi] at hat
            exact atP_step hat
    · subst e
      have hat : AtP part (l.drop l.length) sp := hat
      rw [List.drop_length] at hat
      have hin := atP_end hat
      refine b_cons (s_retD x' (EV.is (ev_in (X := fxPt P w K mg base z) (q := part.length ∈ sp) (EV.is (d' := eN part.length) (ev_lenT L.len (ev_var (P := dt K (eTS part)) 1 rfl (dp_same x'.b h2))) (by rw [List.length_map])) (EV.nl (ev_var (P := nlM K (sp.map eN)) 2 rfl psp)).ofL rfl (flat_eN _) mem_eN) (by rw [decide_eq_true hin])))
end
end K7
/-! _law_left_right: what it asks, of logs. -/
namespace K7
set_option pp.maxSteps 300
open PySem PySem.Spec PyProof.Rows L2
section
variable {M : Mac}
theorem marked_of {l p : Log} (h : ∀ s, s < M.n → markedAt M l s = markedAt M p s) : marked M l = marked M p := by
  unfold marked
  exact List.map_congr_left fun s hs => h s (List.mem_range.mp hs)
theorem marked_same {l p : Log} (h : marked M l = marked M p) {s : Nat} (hs : s < M.n) : markedAt M l s = markedAt M p s := by
  unfold marked at h
  exact List.map_inj_left.mp h s (List.mem_range.mpr hs)
/-- a log that is firm is left by none -/
theorem goes_none (hM : M.Ok) {l : Log} (hl : LogOk M l) (h : goers M l (every M) = []) : (List.range l.length).filter (fGs M l (every M)) = [] := by
  rw [List.filter_eq_nil_iff]
  intro k hk hf
  have hk := List.mem_range.mp hk
  obtain ⟨h1, h2⟩ := (Bool.and_eq_true _ _ ▸ hf : _ ∧ _)
  have hne : l.getD k look ≠ look := by simpa using h1
  have ht : tells M l (without l [k]) (every M) = [] := of_decide_eq_true h2
  have hin : k ∈ goers M l (every M) := (goer_iff hM hl (fun i => every_lt)).mpr ⟨hk, hne, fun s hs => by
    rw [List.filter_eq_nil_iff] at ht
    have := ht s hs
    simpa using this⟩
  rw [h] at hin
  cases hin
/-- each place stays by those behind, or can go -/
theorem stays_goers (hM : M.Ok) {l : Log} (hl : LogOk M l) {k : Nat} (hk : k < l.length) (h : fSy M l k = false) : k ∈ goers M l (every M) := by
  obtain ⟨h1, h2⟩ := (Bool.or_eq_false_iff.mp h : _ ∧ _)
  have hne : l.getD k look ≠ look := of_decide_eq_false h1
  have he : marked M (l.drop k) = marked M (l.drop (k + 1)) := by simpa using h2
  have hx : l[k]? = some (l.getD k look) := by
    rw [List.getD_eq_getElem?_getD, List.getElem?_eq_getElem hk]
    rfl
  rw [goers_mem]
  refine ⟨hk, hne, ?_⟩
  unfold mayGo
  rw [List.all_eq_true]
  intro s hs
  refine decide_eq_true ?_
  have hsn : s < M.n := by
    unfold img isort at hs
    have hmem := of_decide_eq_true (List.mem_filter.mp hs).2
    obtain ⟨s0, h0, rfl⟩ := List.mem_map.mp hmem
    exact way_lt hM (fun x hx => hl.mem x (List.mem_of_mem_take hx)) (every_lt h0)
  have e := marked_same he hsn
  rw [← e]
  rw [drop_at hx]
  unfold markedAt
  have : way M s (l.getD k look :: l.drop (k + 1)) = way M (stp M (l.getD k look) s) (l.drop (k + 1)) := by
    show (if l.getD k look = look then _ else _) = _
    rw [if_neg hne]
  rw [this]
end
theorem et_neB {X : Cx} {a b : Expr} {σ : L2.St} {B : Hp} {pos : Pos} {x y : Bool} (ha : EV X a σ B (dt X.K (.bool x))) (hb : EV X b σ B (dt X.K (.bool y))) : ET X (.Compare a [.NotEq] [b] pos) σ B (!decide (x = y)) :=
  et_cmp op_ne (nomark _) ha hb fun u v B1 _ px py => rv_now rfl fun H s Q q => by
    rw [dp_b px, dp_b py]
    refine ⟨rfl, ?_⟩
    have e : decide (V.bl x = V.bl y) = decide (x = y) := by simp
    rw [e]
    exact q
theorem ev_eqT0 {X : Cx} {a : Expr} {σ : L2.St} {B : Hp} {pos p2 : Pos} {k2 : Nat} {l : List Nat} (hu : X.A.units + 64 < cLine) (ha : EV X a σ B (dt X.K (eTN l))) : EV X (.Compare a [.Eq] [.Tuple [] k2 p2] pos) σ B (dt X.K (.bool (decide (l = [])))) :=
  ev_eq (n := 1) (m := 1) (q := l = []) hu ha (ev_tup (ds := []) ea_nil) (plain_eTN 0 _) rfl (by decide) (by decide) (by simp)
theorem et_neT0 {X : Cx} {a : Expr} {σ : L2.St} {B : Hp} {pos p2 : Pos} {k2 : Nat} {l : List Nat} (hu : X.A.units + 64 < cLine) (ha : EV X a σ B (dt X.K (eTN l))) : ET X (.Compare a [.NotEq] [.Tuple [] k2 p2] pos) σ B (!decide (l = [])) :=
  et_ne (n := 1) (m := 1) (q := l = []) hu ha (ev_tup (ds := []) ea_nil) (plain_eTN 0 _) rfl (by decide) (by decide) (by simp)
theorem et_neL0 {X : Cx} {a : Expr} {σ : L2.St} {B : Hp} {pos p2 : Pos} {l : List Nat} (hu : X.A.units + 64 < cLine) (ha : EV X a σ B (dt X.K (eLN l))) : ET X (.Compare a [.NotEq] [.List [] p2] pos) σ B (!decide (l = [])) :=
  et_ne (n := 1) (m := 1) (q := l = []) hu ha (ev_lst (ds := []) ea_nil) (plain_eLN 0 _) rfl (by decide) (by decide) (by simp)
end K7
/-! _law_left_right. -/
namespace K7
set_option pp.maxSteps 300
open PySem PySem.Spec PyProof.Rows L2
abbrev sLr : List Str := ["_law_mat", "_law_log_so", "_law_host_so", "_law_every_so", "_law_left_so", "_law_spots_so", "_law_stays_so", "_law_k", "_law_own", "_law_far_so", "_law_rest_so"]
theorem scLr : FnScope sLr ["_law_mat", "_law_log_so"] (defScope (topS 71)) := ⟨rfl, rfl, rfl, by decide +kernel, rfl, by decide +kernel, by decide +kernel⟩
abbrev spLr (K : PySem.W.Frag) : Sp := spD (fun t : Mt × Log => [matM K t.1, dt K (eTS t.2)]) (fun t => t.1.Ok ∧ LogOk t.1.mac t.2 ∧ t.2.length ≤ 10) fun _ => dt K (.bool true)
theorem log_can {M : Mac} (hM : M.Ok) {l : Log} (hl : LogOk M l) : ∀ x ∈ l, PyData.canLay0 (.str x) = true := fun x hx => by
  rcases hl.mem x hx with rfl | h
  · decide +kernel
  · exact (hM.nm x h).ok
section
variable {P : Program} {w : World} {K : PySem.W.Frag} {mg : Str → Option Value} {base : Heap} {C : Addr}
abbrev fxLr (P : Program) (w : World) (K : PySem.W.Frag) (mg : Str → Option Value) (base : Heap) (z : Fz) : Cx := fx P w K mg base sLr "_law_left_right" (topS 71) z
set_option maxHeartbeats 4000000 in
theorem ok_lr (L : Bl mg) (Gh : Gf P w K mg base 6 "_law_host" (spHs K C)) (Gf1 : Gf P w K mg base 7 "firm" (spFirm K C)) (Gg : Gf P w K mg base 6 "goers" (spGrs2 K C)) (Gi : Gf P w K mg base 7 "is_firm" (spIsF K C)) (Gs : Gf P w K mg base 5 "stays_for" (spStay K C)) (Ge : Gf P w K mg base 3 "_law_equal" (spLe K)) (Gp : Gf P w K mg base 1 "_law_is_part" (spPt K)) (Gy : Gf P w K mg base 4 "_law_stays" (spSy K)) (Go : Gf P w K mg base 4 "_law_goes" (spGs K)) (Gw : Gf P w K mg base 1 "_law_without" (spWo K)) (Gt : Gf P w K mg base 3 "_law_tells" (spTe K)) (D : Gd K mg "_law_left_right" (topS 71) []) : Gf P w K mg base 8 "_law_left_right" (spLr K) :=
  D.pure (k := 7) scLr (fun _ => rfl) (fun _ _ _ _ _ _ us hl => match us, hl with | [_, _], _ => rfl) fun z vs B ⟨m, l⟩ hp ha sb hr => by
    obtain ⟨va, vb, rfl, h1, h2⟩ := allM2 ha
    obtain ⟨hm, hl, hl10⟩ : m.Ok ∧ LogOk m.mac l ∧ l.length ≤ 10 := hp
    have h1 : (matM K m).p va B := h1
    have h2 : (dt K (eTS l)).p vb B := h2
    have hM := hm.mac
    have n4 := hm.n4
    have hf := firm_ok hM hl
    have hfl : (firm m.mac l).length ≤ 10 := Nat.le_trans hf.len hl10
    have hgl : (goers m.mac l (every m.mac)).length ≤ 10 := Nat.le_trans goers_len hl10
    refine b_cons (s_par (P1 := machM K C m.mac) (P2 := dt K (eTN (every m.mac))) 2 3 rfl scLr.nd (by decide) sb (ea_cons (ev_call m Gh (hr.mono (by decide)) (ea_cons (ev_var (P := matM K m) 0 rfl h1) ea_nil) hm) (ea_cons (ev_tupRg (n := m.n) rfl L.tuple L.range (ev_ixM (P := dt K (eN m.n)) (i := 0) (ev_var (P := matM K m) 0 rfl h1) ev_int rfl) (by omega)) ea_nil)) fun vh ve B1 H1 x1 ph pe => ?_)
    refine b_cons (s_par (P1 := dt K (eTS (firm m.mac l))) (P2 := dt K (eTN (goers m.mac l (every m.mac)))) 4 5 rfl scLr.nd (by decide) x1.s (ea_cons (ev_call (m.mac, l) Gf1 hr (ea_cons (ev_var (P := machM K C m.mac) 2 rfl ph) (ea_cons (ev_var (P := dt K (eTS l)) 1 rfl (dp_same x1.b h2)) ea_nil)) ⟨hM, hl⟩) (ea_cons (ev_call (m.mac, l) Gg (hr.mono (by decide)) (ea_cons (ev_var (P := machM K C m.mac) 2 rfl ph) (ea_cons (ev_var (P := dt K (eTS l)) 1 rfl (dp_same x1.b h2)) ea_nil)) ⟨hM, hl⟩) ea_nil)) fun vl vs' B2 H2 x2 pl ps => ?_)
    change wB (fxLr P w K mg base z) _ _ [some va, some vb, some vh, some ve, some vl, some vs', none, none, none, none, none] _
    have x02 := x1.trans x2
    have q1 := (matM K m).mono x02.b h1
    have q2 := dp_same x02.b h2
    have qh := (machM K C m.mac).mono x2.b ph
    have qe := dp_same x2.b pe
    have same_m : marked m.mac (firm m.mac l) = marked m.mac l := marked_of hf.same
    refine b_cons (s_skip x2.s (ET.is (et_or (et_not (et_val (ev_call (m, firm m.mac l, l) Ge (hr.mono (by decide)) (ea_cons (ev_var (P := matM K m) 0 rfl q1) (ea_cons (ev_var (P := dt K (eTS (firm m.mac l))) 4 rfl pl) (ea_cons (ev_var (P := dt K (eTS l)) 1 rfl q2) ea_nil))) ⟨hm, hf.ok, hl⟩))) (fun _ => et_not (et_val (ev_call (m.mac, firm m.mac l) Gi hr (ea_cons (ev_var (P := machM K C m.mac) 2 rfl qh) (ea_cons (ev_var (P := dt K (eTS (firm m.mac l))) 4 rfl pl) ea_nil)) ⟨hM, hf.ok⟩)))) ?_) fun B3 H3 x3 => ?_)
    · show (!decide (marked m.mac (firm m.mac l) = marked m.mac l) || !decide (goers m.mac (firm m.mac l) (every m.mac) = [])) = false
      rw [decide_eq_true same_m, decide_eq_true hf.rest]
      rfl
    have x03 := x02.trans x3
    have q1 := (matM K m).mono x3.b q1
    have q2 := dp_same x3.b q2
    have qh := (machM K C m.mac).mono x3.b qh
    have qe := dp_same x3.b qe
    have pl := dp_same x3.b pl
    have ps := dp_same x3.b ps
    refine b_cons (s_skip x3.s (ET.is (et_neT0 hr.u64 (ev_call (m, firm m.mac l, every m.mac) Go (hr.mono (by decide)) (ea_cons (ev_var (P := matM K m) 0 rfl q1) (ea_cons (ev_var (P := dt K (eTS (firm m.mac l))) 4 rfl pl) (ea_cons (ev_var (P := dt K (eTN (every m.mac))) 3 rfl qe) ea_nil))) ⟨hm, hf.ok, fun s hs => every_lt hs, by show (List.range m.n).length ≤ 10; rw [List.length_range]; omega⟩)) ?_) fun B4 H4 x4 => ?_)
    · show (!decide ((List.range (firm m.mac l).length).filter (fGs m.mac (firm m.mac l) (every m.mac)) = [])) = false
      rw [decide_eq_true (goes_none hM hf.ok hf.rest)]
      rfl
    have x04 := x03.trans x4
    have q1 := (matM K m).mono x4.b q1
    have q2 := dp_same x4.b q2
    have qh := (machM K C m.mac).mono x4.b qh
    have pl := dp_same x4.b pl
    have ps := dp_same x4.b ps
    refine b_cons (s_skip x4.s (ET.is (et_or (et_not (et_val (ev_call (l, firm m.mac l) Gp (hr.mono (by decide)) (ea_cons (ev_var (P := dt K (eTS l)) 1 rfl q2) (ea_cons (ev_var (P := dt K (eTS (firm m.mac l))) 4 rfl pl) ea_nil)) ⟨hf.part, hl10, log_can hM hl, log_can hM hf.ok⟩))) (fun _ => et_neB (ev_call (m.mac, l) Gi hr (ea_cons (ev_var (P := machM K C m.mac) 2 rfl qh) (ea_cons (ev_var (P := dt K (eTS l)) 1 rfl q2) ea_nil)) ⟨hM, hl⟩) (ev_eqT0 hr.u64 (ev_var (P := dt K (eTN (goers m.mac l (every m.mac)))) 5 rfl ps)))) ?_) fun B5 H5 x5 => ?_)
    · show (!true || !decide (decide (goers m.mac l (every m.mac) = []) = decide (goers m.mac l (every m.mac) = []))) = false
      simp
    have x05 := x04.trans x5
    have q1 := (matM K m).mono x5.b q1
    have q2 := dp_same x5.b q2
    have qh := (machM K C m.mac).mono x5.b qh
    have ps := dp_same x5.b ps
    have hsy := List.length_filter_le (fSy m.mac l) (List.range l.length)
    rw [List.length_range] at hsy
    refine b_cons (s_set (P := dt K (eTN ((List.range l.length).filter (fSy m.mac l) ++ goers m.mac l (every m.mac)))) 6 scLr.nd x5.s (EV.is (ev_catT (ev_call (m, l) Gy (hr.mono (by decide)) (ea_cons (ev_var (P := matM K m) 0 rfl q1) (ea_cons (ev_var (P := dt K (eTS l)) 1 rfl q2) ea_nil)) ⟨hm, hl⟩) (ev_var (P := dt K (eTN (goers m.mac l (every m.mac)))) 5 rfl ps) (by rw [List.length_map, List.length_map]; show ((List.range l.length).filter (fSy m.mac l)).length + _ ≤ _; omega)) (by show PyData.tuple _ = PyData.tuple (List.map eN (_ ++ _)); rw [List.map_append])) fun vt B6 H6 x6 pt => ?_)
    change wB (fxLr P w K mg base z) _ _ [some va, some vb, some vh, some ve, some vl, some vs', some vt, none, none, none, none] _
    have x06 := x05.trans x6
    have q1 := (matM K m).mono x6.b q1
    have q2 := dp_same x6.b q2
    have qh := (machM K C m.mac).mono x6.b qh
    have ps := dp_same x6.b ps
    refine b_cons (s_skip x6.s (ET.is (et_neL0 (l := (List.range l.length).filter fun k => !decide (k ∈ (List.range l.length).filter (fSy m.mac l) ++ goers m.mac l (every m.mac))) hr.u64 (ev_lc (X := fxLr P w K mg base z) (own := [("_law_k", 7)]) (its := List.range l.length) (f := fun k => !decide (k ∈ (List.range l.length).filter (fSy m.mac l) ++ goers m.mac l (every m.mac))) (g := eN) rfl scLr.nd (blkOk_by (N := sLr) (sc := defScope (topS 71)) (by decide +kernel)) (sn_range (n := l.length) L.range (EV.is (d' := eN l.length) (ev_lenT L.len (ev_var (P := dt K (eTS l)) 1 rfl q2)) (by rw [List.length_map])) (by omega)) (by rw [List.length_range]; omega) fun k hk B' s v hv => ?_)) ?_) fun B7 H7 x7 => ?_)
    · exact ⟨[some va, some vb, some vh, some ve, some vl, some vs', some vt, some v, none, none, none], rfl, fun zz H' s' => tj_name 7 scLr.nd, fun zz => ets_one (et_notIn (X := bx (fxLr P w K mg base z) _ zz) (q := k ∈ (List.range l.length).filter (fSy m.mac l) ++ goers m.mac l (every m.mac)) (ev_var (P := dt K (eN k)) 7 rfl hv) (ev_var (P := dt K (eTN ((List.range l.length).filter (fSy m.mac l) ++ goers m.mac l (every m.mac)))) 6 rfl (dp_same s pt)).ofT rfl (flat_eN _) mem_eN), fun _ zz => ev_var 7 rfl hv⟩
    · have : ((List.range l.length).filter fun k => !decide (k ∈ (List.range l.length).filter (fSy m.mac l) ++ goers m.mac l (every m.mac))) = [] := by
        rw [List.filter_eq_nil_iff]
        intro k hk
        have hk2 := List.mem_range.mp hk
        have : k ∈ (List.range l.length).filter (fSy m.mac l) ++ goers m.mac l (every m.mac) := by
          cases hfs : fSy m.mac l k with
          | true => exact List.mem_append_left _ (List.mem_filter.mpr ⟨hk, hfs⟩)
          | false => exact List.mem_append_right _ (stays_goers hM hl hk2 hfs)
        rw [decide_eq_true this]
        exact Bool.false_ne_true
      rw [this]
      rfl
    have x07 := x06.trans x7
    have q1 := (matM K m).mono x7.b q1
    have q2 := dp_same x7.b q2
    have qh := (machM K C m.mac).mono x7.b qh
    have ps := dp_same x7.b ps
    refine b_cons (s_for (X := fxLr P w K mg base z) PassesOwn.never rfl (sn_encE (sn_enumT L.enum (ev_var (P := dt K (eTS l)) 1 rfl q2))) x7.s
      (fun i σ' B' H' => (∃ o7 o8 o9 o10, σ' = [some va, some vb, some vh, some ve, some vl, some vs', some vt, o7, o8, o9, o10]) ∧ Nx B z.H B' H' ∧ Same B7 B')
      (fun B8 H8 x8 => ⟨⟨none, none, none, none, rfl⟩, x07.trans x8, x8.b⟩)
      (fun i it σ' B' H' B8 H8 v hi ⟨⟨o7, o8, o9, o10, e⟩, x', s'⟩ x8 hv => ?_) fun σ' B' H' s1 s2 ⟨⟨o7, o8, o9, o10, e⟩, x', s'⟩ => ?_)
    · subst e
      obtain ⟨T, a, b, rfl, hT, pa, pb⟩ := hv
      obtain ⟨x, j⟩ := it
      obtain ⟨rfl, hx⟩ := zip_at hi
      obtain rfl := dp_i pa
      have hj : j < l.length := (List.getElem?_eq_some_iff.mp hx).1
      have hgd : l.getD j look = x := by rw [List.getD_eq_getElem?_getD, hx]; rfl
      refine ⟨_, tj_pair 7 8 rfl scLr.nd (x8.s _ _ hT), ?_⟩
      change wB (fxLr P w K mg base z) _ _ [some va, some vb, some vh, some ve, some vl, some vs', some vt, some (.int (j : Int)), some b, o9, o10] _
      have s8 := s'.trans x8.b
      have q1 := (matM K m).mono s8 q1
      have q2 := dp_same s8 q2
      have qh := (machM K C m.mac).mono s8 qh
      have ps := dp_same s8 ps
      have pb : Dp K B8 b (eS x) := pb
      refine b_cons (s_set (P := dt K (if x = look then .none else stayD (stays m.mac l j (every m.mac)))) 9 scLr.nd x8.s (ev_ite (et_eqS (ev_var (P := dt K (eS x)) 8 rfl pb) ev_str) (fun hb => ?_) (fun hb => ?_)) fun v9 B9 H9 x9 p9 => ?_)
      · rw [if_pos (of_decide_eq_true hb)]
        exact ev_non
      · have hne := of_decide_eq_false hb
        rw [if_neg hne]
        exact ev_call (X := fxLr P w K mg base z) (σ := [some va, some vb, some vh, some ve, some vl, some vs', some vt, some (.int (j : Int)), some b, o9, o10]) (m.mac, l, j) Gs (hr.mono (by decide)) (ea_cons (ev_var (P := machM K C m.mac) 2 rfl qh) (ea_cons (ev_var (P := dt K (eTS l)) 1 rfl q2) (ea_cons (ev_var (P := dt K (eN j)) 7 rfl (.int _)) ea_nil))) ⟨hM, hl, hj, by rw [hgd]; exact hne⟩
      have q1 := (matM K m).mono x9.b q1
      have q2 := dp_same x9.b q2
      have ps := dp_same x9.b ps
      have pb := dp_same x9.b pb
      have hnon : x ≠ look → isNon (stayD (stays m.mac l j (every m.mac))) = decide (j ∈ goers m.mac l (every m.mac)) := fun hne => by
        have h := stays_iff hM hl hj (by rw [hgd]; exact hne)
        cases hs : stays m.mac l j (every m.mac) with
        | nil => rw [decide_eq_true (h.mp hs)]; rfl
        | cons f r =>
          rw [decide_eq_false fun z => by rw [h.mpr z] at hs; cases hs]
          rfl
      refine b_cons (s_skip x9.s (ET.is (et_and (et_neS (ev_var (P := dt K (eS x)) 8 rfl pb) ev_str) (fun _ => et_neB (ev_isN (ev_var (P := dt K (if x = look then .none else stayD (stays m.mac l j (every m.mac)))) 9 rfl p9)) (ev_in (q := j ∈ goers m.mac l (every m.mac)) (ev_var (P := dt K (eN j)) 7 rfl (.int _)) (ev_var (P := dt K (eTN (goers m.mac l (every m.mac)))) 5 rfl ps).ofT rfl (flat_eN _) mem_eN))) ?_) fun B10 H10 x10 => ?_)
      · by_cases hxl : x = look
        · rw [show decide (x = Str.ofString "?") = true from decide_eq_true hxl]
          rfl
        · rw [if_neg hxl, hnon hxl]
          simp
      have q1 := (matM K m).mono x10.b q1
      have q2 := dp_same x10.b q2
      have p9 := dp_same x10.b p9
      refine b_cons (s_set (P := dt K (eTS (without l [j]))) 10 scLr.nd x10.s (ev_call (l, [j]) Gw (hr.mono (by decide)) (ea_cons (ev_var (P := dt K (eTS l)) 1 rfl q2) (ea_cons (ev_tup (ds := [eN j]) (ea_cons (ev_var (P := dt K (eN j)) 7 rfl (.int _)) ea_nil) (show 1 ≤ 100000 by decide)) ea_nil)) (by show l.length ≤ 300; omega)) fun v10 B11 H11 x11 p10 => ?_)
      have q1 := (matM K m).mono x11.b q1
      have q2 := dp_same x11.b q2
      have p9 := dp_same x11.b p9
      change wB (fxLr P w K mg base z) _ _ [some va, some vb, some vh, some ve, some vl, some vs', some vt, some (.int (j : Int)), some b, some v9, some v10] _
      refine b_cons (s_skip x11.s ?_ fun B12 H12 x12 => b_nil ⟨B12, x9.b.trans (x10.b.trans (x11.b.trans x12.b)), x12.s, ⟨_, _, _, _, rfl⟩, (x'.trans x8).trans (x9.trans (x10.trans (x11.trans x12))), s8.trans (x9.b.trans (x10.b.trans (x11.b.trans x12.b)))⟩)
      by_cases hxl : x = look
      · rw [if_pos hxl] at p9
        exact ET.is (et_and (j := false) (et_notN (X := fxLr P w K mg base z) (ev_var (P := dt K .none) 9 rfl p9)) (fun h => by cases h)) rfl
      · rw [if_neg hxl] at p9
        cases hs : stays m.mac l j (every m.mac) with
        | nil =>
          rw [hs] at p9
          exact ET.is (et_and (j := false) (et_notN (X := fxLr P w K mg base z) (ev_var (P := dt K .none) 9 rfl p9)) (fun h => by cases h)) rfl
        | cons f r =>
          rw [hs] at p9
          have p9 : Dp K B11 v9 (eN f) := p9
          obtain ⟨hfn, hfd⟩ := stays_first hs
          have ht : tells m.mac l (without l [j]) [f] = [f] := by
            show (List.filter (fun s => !decide (markedAt m.mac l s = markedAt m.mac (without l [j]) s)) [f]) = [f]
            rw [List.filter_cons_of_pos (by rw [decide_eq_false hfd]; rfl), List.filter_nil]
          refine ET.is (et_and (et_notN (X := fxLr P w K mg base z) (ev_var (P := dt K (eN f)) 9 rfl p9)) (fun _ => et_ne (X := fxLr P w K mg base z) (n := 1) (m := 1) (q := tells m.mac l (without l [j]) [f] = [f]) hr.u64 (ev_call (X := fxLr P w K mg base z) (m, l, without l [j], [f]) Gt (hr.mono (by decide)) (ea_cons (ev_var (P := matM K m) 0 rfl q1) (ea_cons (ev_var (P := dt K (eTS l)) 1 rfl q2) (ea_cons (ev_var (P := dt K (eTS (without l [j]))) 10 rfl p10) (ea_cons (ev_tup (ds := [eN f]) (ea_cons (ev_var (P := dt K (eN f)) 9 rfl p9) ea_nil) (show 1 ≤ 100000 by decide)) ea_nil)))) ⟨hm, hl, hl.without _, (fun s hs2 => by rw [List.mem_singleton.mp hs2]; exact hfn), by show 1 ≤ 10; decide⟩) (ev_lst (ds := [eN f]) (ea_cons (ev_var (P := dt K (eN f)) 9 rfl p9) ea_nil) (show 1 ≤ 100000 by decide)) (plain_eLN 0 _) (plain_eLN 0 [f]) (by decide) (by decide) ?_)) ?_
          · constructor
            · intro h
              exact ht
            · intro h
              show PyData.list _ = PyData.list _
              rw [show List.map eN (tells m.mac l (without l [j]) [f]) = List.map eN [f] from congrArg _ ht]
              rfl
          · rw [decide_eq_true ht]
            rfl
    · subst e
      exact b_cons (s_retD x' ev_bl)
end
end K7
/-! _law_right: frames, parts. -/
namespace K7
set_option pp.maxSteps 300
open PySem PySem.Spec PyProof.Rows L2 LamX
/-- past a walk of the law: the box and the code tables may change -/
structure NxR (T : List (Addr × Str)) (q : Addr) (B H B' H' : Hp) : Prop where
  h : ∀ a o, a ≠ q → (∀ ps, o ≠ .tbl ps) → H a = some o → H' a = some o
  b : Same B B'
  s : Same B' H'
  o : ∀ a xs, H a = some (.lst xs) → B a = none → B' a = none
  nt : NoT B'
  tb : Tabs T H'
section
variable {T : List (Addr × Str)} {q : Addr} {B B1 B2 H H1 H2 : Hp} {k : Nat}
theorem tabs_bx (t : Tabs T H) (bx : BoxAt q k H) (x : NxB q B H B1 H1) : Tabs T H1 := fun p hp => by
  obtain ⟨ps, h1, h2, h3⟩ := t p hp
  obtain ⟨a, b, c, e, _⟩ := bx
  have ne : ∀ {a o}, H a = some o → (∀ xs, o ≠ .lst xs) → a ≠ q := fun {a} {o} h n z => by
    rw [z, e] at h
    injection h with h
    exact n _ h.symm
  refine ⟨ps, x.h _ _ (ne h1 fun _ z => by cases z) h1, h2, fun pos cv hc => ?_⟩
  obtain ⟨c', e1, e2⟩ := h3 pos cv hc
  exact ⟨c', e1, x.h _ _ (ne e2 fun _ z => by cases z) e2⟩
theorem NxB.r (x : NxB q B H B1 H1) (nt : NoT B) (t : Tabs T H) (bx : BoxAt q k H) : NxR T q B H B1 H1 :=
  ⟨fun a o n _ h => x.h a o n h, x.b, x.s, fun a xs h hb => (x.o a (by rw [h]; exact fun z => by cases z)).trans hb, nt.nxb x, tabs_bx t bx x⟩
theorem NxT.r (x : NxT T B H B1 H1) : NxR T q B H B1 H1 := ⟨fun a o _ n h => x.h a o h n, x.b, x.s, x.o, x.nt, x.tb⟩
theorem NxR.trans {xs : List V} (x : NxR T q B H B1 H1) (y : NxR T q B1 H1 B2 H2) (hq : q = q) (hb : ∀ a, a = q → B1 a = none → B2 a = none) : NxR T q B H B2 H2 :=
  ⟨fun a o n n2 h => y.h a o n n2 (x.h a o n n2 h), x.b.trans y.b, y.s, fun a xs h hb2 => by
    have h1 := x.o a xs h hb2
    by_cases e : a = q
    · exact hb a e h1
    · exact y.o a xs (x.h a _ e (fun ps z => by cases z) h) h1, y.nt, y.tb⟩
theorem BSt.t (S : BSt q B H k) (x : NxT T B H B1 H1) : BSt q B1 H1 k := by
  obtain ⟨s, u, a, b, c, e, hy, hz⟩ := S
  exact ⟨x.s, x.o q _ e u, a, b, c, x.h _ _ e (fun ps z => by cases z), hy, hz⟩
theorem NxR.join (x : NxR T q B H B1 H1) (y : NxR T q B1 H1 B2 H2) (u : B2 q = none) : NxR T q B H B2 H2 := NxR.trans (xs := []) x y rfl fun a e _ => by rw [e]; exact u
end
abbrev sRt : List Str := ["_law_box_here", "_law_mat", "_law_tags_so", "_law_every_so", "_law_turn", "_law_log_so", "_law_states_so", "_law_spots_so", "_law_host_so", "_law_found", "_law_k"]
theorem scRt : FnScope sRt ["_law_box_here"] (defScope (topS 73)) := ⟨rfl, rfl, rfl, by decide +kernel, rfl, by decide +kernel, by decide +kernel⟩
abbrev spRt (T : List (Addr × Str)) : Sp := fun vs H Q _ => ∃ (q : Addr) (B : Hp) (k : Nat), vs = [.ref q] ∧ BSt q B H (300 + k) ∧ NoT B ∧ Tabs T H ∧ ∀ B1 H1, NxR T q B H B1 H1 → BSt q B1 H1 k → Q (.bl true) H1
theorem bv_eqN {X : Cx} {a : Expr} {σ : L2.St} {q : Addr} {B : Hp} {pos : Pos} {n : Nat} {pr : Nat → Prop} {j : Int} {kk : Nat} {p2 : Pos} (ha : BV X a σ q B n (exD X.K pr eN)) : BV X (.Compare a [.Eq] [.Constant (.int j) kk p2] pos) σ q B n (exD X.K (fun _ : Bool => True) PyData.bool) :=
  bv_cmp (n := n) (m := 0) op_eq (nomark _) ha (ev_int (i := j)).bv (fun x y B1 _ ⟨i, pi, px⟩ py => rv_now (z := .bl (decide ((i : Int) = j))) ⟨_, True.intro, .bl _⟩ fun H s Q g => by
    rw [dp_i px, dp_i py]
    refine ⟨rfl, ?_⟩
    have e : decide (V.int (i : Int) = V.int j) = decide ((i : Int) = j) := by simp
    rw [e]
    exact g) (by omega)
/-- a drawn log fits -/
theorem drawn_ok {m : Mt} (hm : m.Ok) {looks : Bool} {l : List Str} (h : l.length ≤ 9 ∧ ∀ x ∈ l, (x = look ∧ looks = true) ∨ x ∈ m.mac.nms) : LogOk m.mac l := ⟨fun x hx => by
  rcases h.2 x hx with h | h
  · exact .inl h.1
  · exact .inr (hm.nms.2.2.2 x h), by omega⟩
theorem tags_ok {m : Mt} (hm : m.Ok) : m.mac.nms ≠ [] ∧ m.mac.nms.length ≤ 5 ∧ ∀ x ∈ m.mac.nms, NameOk x := by
  obtain ⟨_, n2, n3, n4⟩ := hm.nms
  exact ⟨fun e => (by rw [e] at n2; cases n2), n3, fun x hx => hm.mac.nm x (n4 x hx)⟩
theorem twin_parts {M : Mac} {l : Log} {p q : Nat} (h : [p, q] ∈ twinPairs M l) : p ∈ goers M l (every M) ∧ q ∈ goers M l (every M) ∧ canAll M l [p, q] (every M) = false := by
  obtain ⟨h1, h2⟩ := List.mem_filter.mp h
  have h3 : canAll M l [p, q] (every M) = false := by simpa using h2
  unfold pairsN at h1
  simp only [List.mem_flatMap, List.mem_map, List.mem_filter] at h1
  obtain ⟨a, ha, b, ⟨hb, _⟩, e⟩ := h1
  injection e with e1 e2
  injection e2 with e2 _
  exact ⟨e1 ▸ ha, e2 ▸ hb, h3⟩
theorem goer_pl {M : Mac} {l : Log} {ps : List Nat} (h : ∀ p ∈ ps, p ∈ goers M l (every M)) : PlOk l ps := fun p hp => ⟨(goers_mem.mp (h p hp)).1, (goers_mem.mp (h p hp)).2.1⟩
end K7
/-! _law_right: up to the second machine. -/
namespace K7
set_option pp.maxSteps 300
open PySem PySem.Spec PyProof.Rows L2 LamX
section
variable {P : Program} {w : World} {K : PySem.W.Frag} {mg : Str → Option Value} {base : Heap} {C : Addr}
abbrev fxRt (P : Program) (w : World) (K : PySem.W.Frag) (mg : Str → Option Value) (base : Heap) (z : Fz) : Cx := fx P w K mg base sRt "_law_right" (topS 73) z
structure RtG (P : Program) (w : World) (K : PySem.W.Frag) (mg : Str → Option Value) (base : Heap) (C : Addr) : Prop where
  L : Bl mg
  tk : Gf P w K mg base 1 "_law_take" (spTake K)
  sm : Gf P w K mg base 5 "_law_some_machine" (spSm K)
  mc : Gf P w K mg base 4 "_law_machine" (spMc K)
  tg : Gf P w K mg base 1 "_law_tags" (spTg K)
  lg : Gf P w K mg base 3 "_law_log" (spLg K)
  ss : Gf P w K mg base 2 "_law_some_states" (spSs K)
  lr : Gf P w K mg base 8 "_law_left_right" (spLr K)
  hs : Gf P w K mg base 6 "_law_host" (spHs K C)
  g2 : Gf P w K mg base 6 "goers" (spGrs2 K C)
  g3 : Gf P w K mg base 6 "goers" (spGrs K C)
  isT : Gf P w K mg base 8 "is_twins" (spIsT K C)
  can : Gf P w K mg base 5 "can_all_go" (spCan K C)
set_option maxHeartbeats 4000000 in
theorem rt_first (G : RtG P w K mg base C) (z : Fz) {D : Ends} {q : Addr} {B : Hp} {j : Nat} (hr : Room 9 (fxRt P w K mg base z).A) (S : BSt q B z.H (300 + j)) (k : ∀ (m : Mt) (m1 : Mt) v1 v2 v3 o4 o5 o6 o7 B1 H1, m.Ok → m.n ≤ 3 → m.rows.length ≤ 2 → m1.Ok → NxB q B z.H B1 H1 → BSt q B1 H1 (40 + j) → (matM K m).p v1 B1 → Dp K B1 v3 (eTN (List.range m1.n)) → wB (fxRt P w K mg base z) ((defBody (topS 73)).drop 4) D [some (.ref q), some v1, some v2, some v3, o4, o5, o6, o7, none, none, none] H1) :
    wB (fxRt P w K mg base z) (defBody (topS 73)) D [some (.ref q), none, none, none, none, none, none, none, none, none, none] z.H := by
  refine b_cons (sb_set (P := exM Mt.Ok (matM K)) 1 scRt.nd (n := 101) (k := 199 + j) (S.le (by omega)) (bv_call (X := fxRt P w K mg base z) (n := 0) (4, 3) G.sm (hr.mono (by decide)) (ev_var (P := eqM (.ref q)) 0 rfl rfl) (ba_cons (n := 0) (m := 0) ev_int.bv (ba_cons (n := 0) (m := 0) ev_int.bv ba_nil (by decide)) (by decide)) (by decide) (by decide)) fun v1 B1 H1 x1 S1 ⟨m, hm, p1⟩ => ?_)
  have n4 := hm.n4
  refine b_cons (s_par (P1 := dt K (eTS m.mac.nms)) (P2 := dt K (eTN (List.range m.n))) 2 3 rfl scRt.nd (by decide) S1.s (ea_cons (ev_call m G.tg (hr.mono (by decide)) (ea_cons (ev_var (P := matM K m) 1 rfl p1) ea_nil) hm) (ea_cons (ev_tupRg (n := m.n) rfl G.L.tuple G.L.range (ev_ixM (P := dt K (eN m.n)) (i := 0) (ev_var (P := matM K m) 1 rfl p1) ev_int rfl) (by omega)) ea_nil)) fun v2 v3 B2 H2 x2 p2 p3 => ?_)
  change wB (fxRt P w K mg base z) _ _ [some (.ref q), some v1, some v2, some v3, none, none, none, none, none, none, none] _
  have x02 := x1.trans x2.bx
  have S2 := S1.nx x2
  have q1 := (matM K m).mono x2.b p1
  have htg := tags_ok hm
  refine b_cons (s_for (X := fxRt P w K mg base z) PassesOwn.never rfl (sn_range (n := 3) G.L.range ev_int (by decide)) S2.s
    (fun i σ' B' H' => (∃ o4 o5 o6 o7, σ' = [some (.ref q), some v1, some v2, some v3, o4, o5, o6, o7, none, none, none]) ∧ NxB q B z.H B' H' ∧ BSt q B' H' (16 * (3 - i) + (151 + j)) ∧ Same B2 B')
    (fun B3 H3 x3 => ⟨⟨none, none, none, none, rfl⟩, x02.trans x3.bx, (S2.nx x3).le (by omega), x3.b⟩)
    (fun i it σ' B' H' B3 H3 v hi ⟨⟨o4, o5, o6, o7, e⟩, x', S', s'⟩ x3 hv => ?_) fun σ' B' H' s1 s2 ⟨⟨o4, o5, o6, o7, e⟩, x', S', s'⟩ => ?_)
  · subst e
    have hi3 : i < 3 := by
      have := (List.getElem?_eq_some_iff.mp hi).1
      rwa [List.length_range] at this
    refine ⟨_, tj_name 4 scRt.nd, ?_⟩
    change wB (fxRt P w K mg base z) _ _ [some (.ref q), some v1, some v2, some v3, some v, o5, o6, o7, none, none, none] _
    have s3 := s'.trans x3.b
    have q1 := (matM K m).mono s3 q1
    have q2 := dp_same s3 p2
    have S3 : BSt q B3 H3 (11 + (5 + (16 * (3 - (i + 1)) + (151 + j)))) := (S'.nx x3).le (by omega)
    refine b_cons (sb_set (P := exD K (fun l : Log => LogOk m.mac l ∧ l.length ≤ 10) eTS) 5 scRt.nd S3 (bv_callE (X := fxRt P w K mg base z) (n := 1) (As := [dt K (eTS m.mac.nms), dt K (eN 9), exD K (fun _ : Bool => True) PyData.bool]) G.lg (hr.mono (by decide)) (ev_var (P := eqM (.ref q)) 0 rfl rfl) (ba_cons (n := 0) (m := 1) (ev_var (P := dt K (eTS m.mac.nms)) 2 rfl q2).bv (ba_cons (n := 0) (m := 1) ev_int.bv (ba_cons (n := 1) (m := 0) (bv_eqN (bv_call (X := fxRt P w K mg base z) (n := 0) 2 G.tk (hr.mono (by decide)) (ev_var (P := eqM (.ref q)) 0 rfl rfl) (ba_cons (n := 0) (m := 0) ev_int.bv ba_nil (by decide)) (by decide) (by decide))) ba_nil (by decide)) (by decide)) (by decide)) (fun vs B4 hvs => ?_)) fun v5 B4 H4 x4 S4 ⟨l, ⟨hl, hl10⟩, p5⟩ => ?_)
    · obtain ⟨a, b, c, rfl, pa, pb, lk, _, pc⟩ := allM3 hvs
      exact ⟨(m.mac.nms, lk), htg, ⟨pa, pb, pc, True.intro⟩, by decide, fun v B5 ⟨l, hl, p⟩ => ⟨l, ⟨drawn_ok hm hl, by have := hl.1; omega⟩, p⟩⟩
    have q1 := (matM K m).mono x4.b q1
    refine b_cons (sb_set (P := exD K (StsOk m.n) eTN) 6 scRt.nd S4 (bv_call (X := fxRt P w K mg base z) (n := 0) m G.ss (hr.mono (by decide)) (ev_var (P := eqM (.ref q)) 0 rfl rfl) (ba_cons (n := 0) (m := 0) (ev_var (P := matM K m) 1 rfl q1).bv ba_nil (by decide)) hm (by decide)) fun v6 B5 H5 x5 S5 ⟨st, hst, p6⟩ => ?_)
    change wB (fxRt P w K mg base z) _ _ [some (.ref q), some v1, some v2, some v3, some v, some v5, some v6, o7, none, none, none] _
    have q1 := (matM K m).mono x5.b q1
    have p5 := dp_same x5.b p5
    refine b_cons (s_skip S5.s (ET.is (et_not (et_val (ev_call (m, l) G.lr (hr.mono (by decide)) (ea_cons (ev_var (P := matM K m) 1 rfl q1) (ea_cons (ev_var (P := dt K (eTS l)) 5 rfl p5) ea_nil)) ⟨hm, hl, hl10⟩))) rfl) fun B6 H6 x6 => ?_)
    have q1 := (matM K m).mono x6.b q1
    have p5 := dp_same x6.b p5
    have p6 := dp_same x6.b p6
    refine b_cons (s_set (P := dt K (eTN (goers m.mac l (every m.mac)))) 7 scRt.nd x6.s (ev_call (m.mac, l) G.g2 (hr.mono (by decide)) (ea_cons (ev_call m G.hs (hr.mono (by decide)) (ea_cons (ev_var (P := matM K m) 1 rfl q1) ea_nil) hm) (ea_cons (ev_var (P := dt K (eTS l)) 5 rfl p5) ea_nil)) ⟨hm.mac, hl⟩) fun v7 B7 H7 x7 p7 => ?_)
    change wB (fxRt P w K mg base z) _ _ [some (.ref q), some v1, some v2, some v3, some v, some v5, some v6, some v7, none, none, none] _
    have q1 := (matM K m).mono x7.b q1
    have p5 := dp_same x7.b p5
    have p6 := dp_same x7.b p6
    have hgl : (goers m.mac l (every m.mac)).length ≤ 10 := Nat.le_trans goers_len hl10
    have hst2 : StOk m.mac (some st) := fun l' e => by
      injection e with e
      subst e
      exact ⟨hst.2.2, by have := hst.2.1; omega⟩
    refine b_cons (s_skip x7.s (ET.is (et_neL0 (l := (goers m.mac l (every m.mac)).filter fun k => !decide (k ∈ goers m.mac l st)) hr.u64 (ev_lc (X := fxRt P w K mg base z) (own := [("_law_k", 10)]) (its := goers m.mac l (every m.mac)) (f := fun k => !decide (k ∈ goers m.mac l st)) (g := eN) rfl scRt.nd (blkOk_by (N := sRt) (sc := defScope (topS 73)) (by decide +kernel)) (sn_enc (sn_tup (ev_var 7 rfl p7))) (by omega) fun k hk B' s v' hv' => ?_)) ?_) fun B8 H8 x8 => ?_)
    · exact ⟨[some (.ref q), some v1, some v2, some v3, some v, some v5, some v6, some v7, none, none, some v'], rfl, fun zz H' s' => tj_name 10 scRt.nd, fun zz => ets_one (et_notIn (X := bx (fxRt P w K mg base z) _ zz) (q := k ∈ goers m.mac l st) (ev_var (P := dt K (eN k)) 10 rfl hv') (EV.ofT (ev_cal (X := bx (fxRt P w K mg base z) _ zz) (t := (m.mac, l, some st)) G.g3 (hr.mono (by decide)) (ea_cons (ev_cal (X := bx (fxRt P w K mg base z) _ zz) (t := m) G.hs (hr.mono (by decide)) (ea_cons (ev_var (P := matM K m) 1 rfl ((matM K m).mono s q1)) ea_nil) hm) (ea_cons (ev_var (P := dt K (eTS l)) 5 rfl (dp_same s p5)) (ea_cons (EV.ofT (ev_var (P := dt K (eTN st)) 6 rfl (dp_same s p6))) ea_nil))) ⟨hm.mac, hl, hst2⟩)) rfl (flat_eN _) mem_eN), fun _ zz => ev_var 10 rfl hv'⟩
    · have : ((goers m.mac l (every m.mac)).filter fun k => !decide (k ∈ goers m.mac l st)) = [] := by
        rw [List.filter_eq_nil_iff]
        intro k hk
        rw [decide_eq_true (goers_less hm.mac hl hst.2.2 hk)]
        exact Bool.false_ne_true
      rw [this]
      rfl
    · refine b_nil ⟨B8, (x4.b.trans x5.b).trans (x6.b.trans (x7.b.trans x8.b)), x8.s, ⟨_, _, _, _, rfl⟩, (((x'.trans x3.bx).trans x4).trans x5).trans (x6.trans (x7.trans x8)).bx, S5.nx (x6.trans (x7.trans x8)), s3.trans ((x4.b.trans x5.b).trans (x6.b.trans (x7.b.trans x8.b)))⟩
  · subst e
    refine b_cons (sb_set (P := exM (fun m : Mt => m.Ok ∧ m.n ≤ 3 ∧ m.rows.length ≤ 2) (matM K)) 1 scRt.nd (n := 100) (k := 40 + j) (S'.le (by omega)) (bv_call (X := fxRt P w K mg base z) (n := 0) (3, 2) G.mc (hr.mono (by decide)) (ev_var (P := eqM (.ref q)) 0 rfl rfl) (ba_cons (n := 0) (m := 0) ev_int.bv (ba_cons (n := 0) (m := 0) ev_int.bv ba_nil (by decide)) (by decide)) (by decide) (by decide)) fun v1' B4 H4 x4 S4 ⟨m', ⟨hm', hn3, hr2⟩, p1'⟩ => ?_)
    exact k m' m v1' v2 v3 o4 o5 o6 o7 B4 H4 hm' hn3 hr2 hm (x'.trans x4) S4 p1' (dp_same (s'.trans x4.b) p3)
end
end K7
/-! _law_right: twins and after. -/
namespace K7
set_option pp.maxSteps 300
open PySem PySem.Spec PyProof.Rows L2 LamX
theorem et_notTrue {X : Cx} {a : Expr} {σ : L2.St} {B : Hp} {pos p2 : Pos} {j : Nat} {k : Bool} (ha : EV X a σ B (dt X.K (.bool k))) : ET X (.Compare a [.IsNot] [.Constant (.bool true) j p2] pos) σ B (!decide (k = true)) :=
  et_cmp op_notBl (nomark _) ha ev_bl fun u v B1 _ px py => rv_now rfl fun H s Q q => ⟨k, true, dp_b px, dp_b py, q⟩
section
variable {P : Program} {w : World} {K : PySem.W.Frag} {mg : Str → Option Value} {base : Heap} {C : Addr}
set_option maxHeartbeats 4000000 in
theorem rt_second (G : RtG P w K mg base C) {T : List (Addr × Str)} (Gtw : Gf P w K mg base 9 "twins" (spTw K C T)) (z : Fz) {D : Ends} {q : Addr} {B H : Hp} {j : Nat} (hr : Room 9 (fxRt P w K mg base z).A) {m m1 : Mt} {v1 v2 v3 : V} {o4 o5 o6 o7 : Option V} (hm : m.Ok) (hn3 : m.n ≤ 3) (hr2 : m.rows.length ≤ 2) (hm1 : m1.Ok) (S : BSt q B H (40 + j)) (nt : NoT B) (tb : Tabs T H) (p1 : (matM K m).p v1 B) (p3 : Dp K B v3 (eTN (List.range m1.n)))
    (hD : ∀ B1 H1, NxR T q B H B1 H1 → BSt q B1 H1 j → D.rt (.bl true) H1) :
    wB (fxRt P w K mg base z) ((defBody (topS 73)).drop 4) D [some (.ref q), some v1, some v2, some v3, o4, o5, o6, o7, none, none, none] H := by
  have hM := hm.mac
  refine b_cons (s_set (P := machM K C m.mac) 8 scRt.nd S.s (ev_call m G.hs (hr.mono (by decide)) (ea_cons (ev_var (P := matM K m) 1 rfl p1) ea_nil) hm) fun v8 B1 H1 x1 p8 => ?_)
  change wB (fxRt P w K mg base z) _ _ [some (.ref q), some v1, some v2, some v3, o4, o5, o6, o7, some v8, none, none] _
  have hk2 : m.mac.nms.length ≤ 2 := by
    have := (srt_perm (m.rows.map (·.1))).length_eq
    rw [List.length_map] at this
    show (srt (m.rows.map (·.1))).length ≤ 2
    omega
  refine b_cons (s_of (ps_set (X := fxRt P w K mg base z) (i := 9) scRt.nd rfl (Or.inl rfl) pe_w rfl) (w_call (X := fxRt P w K mg base z) Gtw hr ((ea_cons (X := fxRt P w K mg base z) (ev_var (P := machM K C m.mac) 8 rfl p8) ea_nil) H1 x1.s _ fun vs B2 H2 x2 pv => ?_)))
  obtain ⟨v, rfl, pm⟩ := allM1 pv
  have S2 := (S.nx x1).nx x2
  refine ⟨m.mac, B2, v, rfl, x2.s, (nt.nx x1).nx x2, (tb.ext x1.h).ext x2.h, pm, hM, hk2, hn3, fun v9 B3 H3 xT pt => ?_⟩
  change wB (fxRt P w K mg base z) _ _ [some (.ref q), some v1, some v2, some v3, o4, o5, o6, o7, some v8, some v9, none] _
  have S3 := S2.t xT
  have xR : NxR T q B H B3 H3 := ((x1.trans x2).bx.r nt tb S.x).join xT.r S3.u
  have s3 : Same B B3 := xR.b
  have q1 := (matM K m).mono s3 p1
  have q3 := dp_same s3 p3
  have q8 := (machM K C m.mac).mono (x2.b.trans xT.b) p8
  rcases pt with ⟨pn, hT⟩ | ⟨l, p, r, htw, hln, hl200, pd⟩
  · refine b_cons (s_skip S3.s (ET.is (et_notN (X := fxRt P w K mg base z) (ev_var (P := dt K .none) 9 rfl pn)) rfl) fun B4 H4 x4 => ?_)
    have htg := tags_ok hm
    have S4 := S3.nx x4
    have q1 := (matM K m).mono x4.b q1
    have q8 := (machM K C m.mac).mono x4.b q8
    refine b_cons (s_for (X := fxRt P w K mg base z) PassesOwn.never rfl (sn_range (n := 4) G.L.range ev_int (by decide)) x4.s
      (fun i σ' B' H' => (∃ o4 o5, σ' = [some (.ref q), some v1, some v2, some v3, o4, o5, o6, o7, some v8, some v9, none]) ∧ NxB q B3 H3 B' H' ∧ BSt q B' H' (10 * (4 - i) + j) ∧ Same B4 B')
      (fun B5 H5 x5 => ⟨⟨_, _, rfl⟩, x4.bx.trans x5.bx, (S4.nx x5).le (by omega), x5.b⟩)
      (fun i it σ' B' H' B5 H5 v hi ⟨⟨o4, o5, e⟩, x', S', s'⟩ x5 hv => ?_) fun σ' B' H' s1 s2 ⟨⟨o4, o5, e⟩, x', S', s'⟩ => ?_)
    · subst e
      have hi4 : i < 4 := by
        have := (List.getElem?_eq_some_iff.mp hi).1
        rwa [List.length_range] at this
      refine ⟨_, tj_name 4 scRt.nd, ?_⟩
      change wB (fxRt P w K mg base z) _ _ [some (.ref q), some v1, some v2, some v3, some v, o5, o6, o7, some v8, some v9, none] _
      have s5 := s'.trans x5.b
      have q1 := (matM K m).mono s5 q1
      have q8 := (machM K C m.mac).mono s5 q8
      have S5 : BSt q B5 H5 (10 + (10 * (4 - (i + 1)) + j)) := (S'.nx x5).le (by omega)
      refine b_cons (sb_set (P := exD K (fun l : Log => l.length ≤ 9 ∧ LN m.mac l) eTS) 5 scRt.nd S5 (BV.imp (R := exD K (fun l : Log => l.length ≤ 9 ∧ LN m.mac l) eTS) (bv_call (X := fxRt P w K mg base z) (n := 0) (m.mac.nms, false) G.lg (hr.mono (by decide)) (ev_var (P := eqM (.ref q)) 0 rfl rfl) (ba_cons (n := 0) (m := 0) (ev_call m G.tg (hr.mono (by decide)) (ea_cons (ev_var (P := matM K m) 1 rfl q1) ea_nil) hm).bv (ba_cons (n := 0) (m := 0) ev_int.bv (ba_cons (n := 0) (m := 0) ev_bl.bv ba_nil (by decide)) (by decide)) (by decide)) htg (by decide)) fun v B6 _ ⟨l, hl, p⟩ => ⟨l, ⟨hl.1, fun x hx => ?_⟩, p⟩) fun v5 B6 H6 x6 S6 ⟨l, ⟨hl9, hln⟩, p5⟩ => ?_)
      · rcases hl.2 x hx with h | h
        · cases h.2
        · exact h
      change wB (fxRt P w K mg base z) _ _ [some (.ref q), some v1, some v2, some v3, some v, some v5, o6, o7, some v8, some v9, none] _
      have q8 := (machM K C m.mac).mono x6.b q8
      have hlok : LogOk m.mac l := ⟨fun x hx => .inr (hm.nms.2.2.2 x (hln x hx)), by omega⟩
      have hcan := can_all hM hT hln (by omega)
      refine b_cons (s_skip S6.s (ET.is (et_not (et_val (ev_call (m.mac, l, goers m.mac l (every m.mac)) G.can (hr.mono (by decide)) (ea_cons (ev_var (P := machM K C m.mac) 8 rfl q8) (ea_cons (ev_var (P := dt K (eTS l)) 5 rfl p5) (ea_cons (ev_call (m.mac, l) G.g2 (hr.mono (by decide)) (ea_cons (ev_var (P := machM K C m.mac) 8 rfl q8) (ea_cons (ev_var (P := dt K (eTS l)) 5 rfl p5) ea_nil)) ⟨hM, hlok⟩) ea_nil))) ⟨hM, hlok, goer_pl fun p hp => hp⟩))) ?_) fun B7 H7 x7 => b_nil ⟨B7, x6.b.trans x7.b, x7.s, ⟨_, _, rfl⟩, ((x'.trans x5.bx).trans x6).trans x7.bx, S6.nx x7, s5.trans (x6.b.trans x7.b)⟩)
      show (!canAll m.mac l (goers m.mac l (every m.mac)) (every m.mac)) = false
      rw [hcan]
      rfl
    · subst e
      have S' : BSt q B' H' j := S'.le (by omega)
      have q3 := dp_same x'.b q3
      have hne : decide (List.range m1.n = []) = false := decide_eq_false fun e => by
        have := congrArg List.length e
        rw [List.length_range] at this
        have := hm1.n1
        simp at *
        omega
      refine b_cons (s_ret S'.s (ev_ne (X := fxRt P w K mg base z) (n := 1) (m := 1) (q := List.range m1.n = []) hr.u64 (ev_var (P := dt K (eTN (List.range m1.n))) 3 rfl q3) (ev_tup (ds := []) ea_nil) (plain_eTN 0 _) rfl (by decide) (by decide) (by simp)) fun v B5 H5 x5 p => ?_)
      have e5 := dp_b p
      rw [hne] at e5
      rw [e5]
      exact hD B5 H5 (xR.join ((x'.trans x5.bx).r xT.nt xT.tb S3.x) (S'.nx x5).u) (S'.nx x5)
  · obtain ⟨hpg, hrg, hcan⟩ := twin_parts htw
    have hlok : LogOk m.mac l := ⟨fun x hx => .inr (hm.nms.2.2.2 x (hln x hx)), hl200⟩
    have pd : Dp K B3 v9 (thingD l [p, r]) := pd
    refine b_cons (s_take S3.s (ET.is (et_notN (X := fxRt P w K mg base z) (ev_var (P := dt K (thingD l [p, r])) 9 rfl pd)) rfl) fun B4 H4 x4 => ?_)
    have q8 := (machM K C m.mac).mono x4.b q8
    have pd := dp_same x4.b pd
    have f0 : ∀ (B' : Hp) {p1 p2 p3 : Pos} {k : Nat}, Same B4 B' → EV (fxRt P w K mg base z) (.Subscript (.Name "_law_found" p1) (.Constant (.int 0) k p2) p3) [some (.ref q), some v1, some v2, some v3, o4, o5, o6, o7, some v8, some v9, none] B' (dt K (eTS l)) := fun B' p1 p2 p3 k s => ev_ixT (i := 0) (ev_var (P := dt K (thingD l [p, r])) 9 rfl (dp_same s pd)) ev_int rfl
    have hcr : canAll m.mac l [p] (every m.mac) = true := pair_can hM hlok hpg
    have hcr2 : canAll m.mac l [r] (every m.mac) = true := pair_can hM hlok hrg
    refine b_cons (s_skip x4.s (ET.is (et_or (et_notTrue (ev_call (X := fxRt P w K mg base z) (m.mac, l, [p, r]) G.isT (hr.mono (by decide)) (ea_cons (ev_var (P := machM K C m.mac) 8 rfl q8) (ea_cons (ev_var (P := dt K (thingD l [p, r])) 9 rfl pd) ea_nil)) ⟨hM, hlok, rfl⟩)) (fun _ => et_val (ev_call (X := fxRt P w K mg base z) (m.mac, l, [p, r]) G.can (hr.mono (by decide)) (ea_cons (ev_var (P := machM K C m.mac) 8 rfl q8) (ea_cons (f0 B4 (Same.refl _)) (ea_cons (EV.is (d' := eTN [p, r]) (ev_slT (ev_var (P := dt K (thingD l [p, r])) 9 rfl pd) (eo_yes (k := 1) ev_int) eo_no) rfl) ea_nil))) ⟨hM, hlok, goer_pl fun k hk => by
      rcases List.mem_cons.mp hk with rfl | hk
      · exact hpg
      · rw [List.mem_singleton.mp hk]
        exact hrg⟩))) ?_) fun B5 H5 x5 => ?_)
    · show (!decide (decide ([p, r] ∈ twinPairs m.mac l) = true) || canAll m.mac l [p, r] (every m.mac)) = false
      rw [hcan, decide_eq_true htw]
      rfl
    have q8 := (machM K C m.mac).mono x5.b q8
    have pd5 := dp_same x5.b pd
    refine b_cons (s_ret x5.s (ev_and (ev_call (X := fxRt P w K mg base z) (m.mac, l, [p]) G.can (hr.mono (by decide)) (ea_cons (ev_var (P := machM K C m.mac) 8 rfl q8) (ea_cons (f0 B5 x5.b) (ea_cons (EV.is (d' := eTN [p]) (ev_slT (ev_var (P := dt K (thingD l [p, r])) 9 rfl pd5) (eo_yes (k := 1) ev_int) (eo_yes (k := 2) ev_int)) rfl) ea_nil))) ⟨hM, hlok, goer_pl fun k hk => by rw [List.mem_singleton.mp hk]; exact hpg⟩) (fun _ => ev_call (X := fxRt P w K mg base z) (m.mac, l, [r]) G.can (hr.mono (by decide)) (ea_cons (ev_var (P := machM K C m.mac) 8 rfl q8) (ea_cons (f0 B5 x5.b) (ea_cons (EV.is (d' := eTN [r]) (ev_slT (ev_var (P := dt K (thingD l [p, r])) 9 rfl pd5) (eo_yes (k := 2) ev_int) eo_no) rfl) ea_nil))) ⟨hM, hlok, goer_pl fun k hk => by rw [List.mem_singleton.mp hk]; exact hrg⟩)) fun v B6 H6 x6 pv => ?_)
    have e5 : v = .bl (canAll m.mac l [p] (every m.mac) && canAll m.mac l [r] (every m.mac)) := dp_b pv
    rw [hcr, hcr2] at e5
    rw [e5]
    have x36 := x4.trans (x5.trans x6)
    exact hD B6 H6 (xR.join (x36.bx.r xT.nt xT.tb S3.x) (S3.nx x36).u) ((S3.nx x36).le (by omega))
theorem ok_rt (G : RtG P w K mg base C) {T : List (Addr × Str)} (Gtw : Gf P w K mg base 9 "twins" (spTw K C T)) (D : Gd K mg "_law_right" (topS 73) []) : Gf P w K mg base 10 "_law_right" (spRt T) :=
  D.any (k := 9) scRt (fun vs H Q E h => by
    obtain ⟨q, B, k, rfl, -⟩ := h
    rfl) (fun _ _ _ _ _ _ us hl => match us, hl with | [_], _ => rfl) fun z vs Q hr h => by
    obtain ⟨q, B, j, rfl, S, nt, tb, hQ⟩ := h
    refine rt_first G z hr S fun m m1 v1 v2 v3 o4 o5 o6 o7 B1 H1 hm hn3 hr2 hm1 x1 S1 p1 p3 => ?_
    exact rt_second G Gtw z hr hm hn3 hr2 hm1 S1 (nt.nxb x1) (tabs_bx tb S.x x1) p1 p3 fun B2 H2 x2 S2 => hQ B2 H2 ((x1.r nt tb S.x).join x2 S2.u) S2
end
end K7
/-! _law_same. -/
namespace K7
set_option pp.maxSteps 300
open PySem PySem.Spec PyProof.Rows L2
section
variable {X : Cx} {a b c t e : Expr} {es : List Expr} {σ : L2.St} {B : Hp} {pos p : Pos}
/-- a tuple of types -/
def tysM (ts : List String) : Mp := ⟨fun v B => ∃ r, v = .ref r ∧ B r = some (.tup (ts.map V.ty)), fun s ⟨r, e, h⟩ => ⟨r, e, s _ _ h⟩⟩
theorem ev_tys {ts : List String} {k : Nat} (h : EA X es σ B (ts.map fun t => eqM (.ty t))) (hl : ts.length ≤ 1000) : EV X (.Tuple es k pos) σ B (tysM ts) :=
  ev_of (pe_tup pa_w) fun H s Q q => h H s _ fun vs B1 H1 x1 pv => by
    have e : ∀ {ts : List String} {vs : List V}, AllM (ts.map fun t => eqM (.ty t)) vs B1 → vs = ts.map V.ty := by
      intro ts
      induction ts with
      | nil => intro vs h; exact allM0 h
      | cons t ts ih =>
        intro vs h
        match vs, h with
        | v :: vs, h =>
          rw [ih h.2]
          have : v = .ty t := h.1
          rw [this]
          rfl
    have ev := e pv
    refine ⟨by rw [ev, List.length_map]; exact Nat.le_trans hl (by decide), fun r hr => ?_⟩
    have x2 := (Nx.refl x1.s).put (o := .tup vs) hr
    exact q _ _ _ (x1.trans x2) ⟨r, rfl, by rw [upd_same, ev]⟩
theorem paired_ty : ∀ ts : List String, Paired ClsV (ts.map V.ty) (ts.map Value.type)
  | [] => .nil
  | t :: ts => .cons (.ty t) (paired_ty ts)
def kitBs (d : String) : List String → Option Bool
  | [] => some false
  | t :: ts => match kitB d t with
    | some true => some true
    | some false => kitBs d ts
    | none => none
theorem kitAny_of {K : PySem.W.Frag} {d : String} : ∀ {ts : List String} {r : Bool}, kitBs d ts = some r → PySem.W.kitAny K (.type d) (ts.map Value.type) = some r
  | [], r, h => h
  | t :: ts, r, h => by
    unfold kitBs at h
    cases hk : kitB d t with
    | none => rw [hk] at h; cases h
    | some b =>
      rw [hk] at h
      cases b with
      | true => exact kitAny_cons (kit_ty hk) (fun z => by cases z) fun _ => by injection h with h; exact h.symm
      | false => exact kitAny_cons (kit_ty hk) (fun _ => kitAny_of h) fun z => by cases z
theorem ev_isiTT {d : PyData} {ts : List String} {r : Bool} (hm : X.mg "isinstance" = none) (ha : EV X a σ B (dt X.K d)) (ht : EV X t σ B (tysM ts)) (hk : kitBs (tyD d) ts = some r) (hg : Gl X "isinstance" := by rfl)
    (h1 : starEach [a, t] X.env = (false, eval a X.env) :: starEach [t] X.env := by rfl) (h2 : starEach [t] X.env = (false, eval t X.env) :: starEach [] X.env := by rfl) (hpl : (backTo pos (starEach [t] X.env)).any (·.1) = false := by rfl) : EV X (.Call (.Name "isinstance" p) [a, t] [] pos) σ B (dt X.K (.bool r)) :=
  ev_blt call_isiT hm (by decide +kernel) (ea_cons ha (ea_cons ht ea_nil h2) h1) (fun vs B1 _ h => by
    obtain ⟨x, c, rfl, h1, tp, rfl, h2⟩ := allM2 h
    exact rc_now (.bl _) fun H s Q q => ⟨x, tp, ts.map V.ty, _, ts.map Value.type, r, rfl, s _ _ h2, paired_ty ts, tyx_of (dp_same s h1), kitAny_of hk, q⟩) hg (by decide) (by decide) h1 hpl
theorem ev_eqB {x y : Bool} (ha : EV X a σ B (dt X.K (.bool x))) (hb : EV X b σ B (dt X.K (.bool y))) : EV X (.Compare a [.Eq] [b] pos) σ B (dt X.K (.bool (decide (x = y)))) :=
  ev_cmp op_eq (nomark _) ha hb fun u v B1 _ px py => rv_now (.bl _) fun H s Q q => by
    rw [dp_b px, dp_b py]
    refine ⟨rfl, ?_⟩
    have e : decide (V.bl x = V.bl y) = decide (x = y) := by simp
    rw [e]
    exact q
/-- three that hold -/
theorem ev_and3 (ha : EV X a σ B (dt X.K (.bool true))) (hb : EV X b σ B (dt X.K (.bool true))) (hc : EV X c σ B (dt X.K (.bool true))) : EV X (.BoolOp .And [a, b, c] pos) σ B (dt X.K (.bool true)) :=
  ev_of (pe_and pe_w (pe_and pe_w (pe_one pe_w))) fun H s Q q => ha H s _ fun x B1 H1 x1 px => ⟨true, dp_b px, iteT (EV.mono x1.b hb H1 x1.s _ fun y B2 H2 x2 py => ⟨true, dp_b py, iteT (EV.mono (x1.b.trans x2.b) hc H2 x2.s _ fun z B3 H3 x3 pz => q z B3 H3 (x1.trans (x2.trans x3)) pz)⟩)⟩
theorem walk_zipT {K : PySem.W.Frag} {a b : Addr} {xs ys : List V} {n : Nat} (hn : n = min xs.length ys.length) : Walk (RZ.ItzT K a b) n (fun H => SqT K H a xs ∧ SqT K H b ys) (YPair (fun i => xs[i]?) (fun i => ys[i]?)) := by
  subst hn
  refine ⟨fun i _ hi q => ?_, fun _ q => ⟨xs, ys, q.1, q.2, by omega⟩, fun i H v H' _ q y => ?_⟩
  · have h1 : i < xs.length := by omega
    have h2 : i < ys.length := by omega
    exact ⟨xs, ys, xs[i], ys[i], q.1, q.2, by simp [h1], by simp [h2]⟩
  · obtain ⟨T, x, z, h1, h2, h3, h4, h5⟩ := y
    exact ⟨T, x, z, h1, h2, h3, h4 xs q.1, h5 ys q.2⟩
/-- zip of two tuples -/
theorem sn_zipT {ds es : List PyData} {e2 : Expr} {elts : List Expr} {kk : Nat} {tpos : Pos} (hm : X.mg "zip" = none) (h : EV X e σ B (dt X.K (.tuple ds))) (h2 : EV X e2 σ B (dt X.K (.tuple es))) (hl : ds.length = es.length) (hg : Gl X "zip" := by rfl)
    (hs : starEach [e, e2] X.env = (false, eval e X.env) :: starEach [e2] X.env := by rfl) (hpl : (backTo pos (starEach [e2] X.env)).any (·.1) = false := by rfl) (hs2 : starEach [e2] X.env = (false, eval e2 X.env) :: starEach [] X.env := by rfl) :
    SN X (.Tuple elts kk tpos) (.Call (.Name "zip" p) [e, e2] [] pos) σ B (ds.zip es) fun q => prM (dt X.K q.1) (dt X.K q.2) := fun H s R r => i_of (RZ.pi_zipA hg hm (pa_cons pe_w (pa_cons pe_w pa_nil hs2) hs) hs hpl) (h H s _ fun v B1 H1 x1 pv => EV.mono x1.b h2 H1 x1.s _ fun u B2 H2 x2 pu => by
  obtain ⟨a, xs, rfl, hl1, hd1⟩ := dp_t pv
  obtain ⟨b, ys, rfl, hl2, hd2⟩ := dp_t pu
  have hl1 := same_t x2.b hl1
  have hd1 := dpa_same x2.b hd1
  refine ⟨a, b, xs, ys, rfl, .inr ⟨same_t x2.s hl1, same_t x2.s hl2, r _ _ _ (x1.trans x2) ?_⟩⟩
  have e1 := dpa_len hd1
  have e2 := dpa_len hd2
  exact (walk_zipT (xs := xs) (ys := ys) (by rw [List.length_zip]; omega)).mono (fun H' s => ⟨same_t s hl1, same_t s hl2⟩) fun i H' x H'' _ s y => by
    obtain ⟨T, u, z, rfl, nT, rfl, q1, q2⟩ := y
    obtain ⟨d, e3, g1⟩ := dpa_at hd1 q1
    obtain ⟨d', e4, g2⟩ := dpa_at hd2 q2
    have x3 := (Nx.refl s).put (o := .tup [u, z]) nT
    exact ⟨x3.h, (d, d'), _, by rw [List.getElem?_zip_eq_some]; exact ⟨e3, e4⟩, x3, T, u, z, rfl, upd_same, dp_same x3.b g1, dp_same x3.b g2⟩)
end
abbrev sSa : List Str := ["_law_got", "_law_due_so", "_law_mine", "_law_its"]
theorem scSa : FnScope sSa ["_law_got", "_law_due_so"] (defScope (topS 47)) := ⟨rfl, rfl, rfl, by decide +kernel, rfl, by decide +kernel, by decide +kernel⟩
/-- this and the same: True -/
abbrev spSa (K : PySem.W.Frag) (ok : PyData → Prop) : Sp := spD (fun d : PyData => [dt K d, dt K d]) ok fun _ => dt K (.bool true)
section
variable {P : Program} {w : World} {K : PySem.W.Frag} {mg : Str → Option Value} {base : Heap}
abbrev fxSa (P : Program) (w : World) (K : PySem.W.Frag) (mg : Str → Option Value) (base : Heap) (z : Fz) : Cx := fx P w K mg base sSa "_law_same" (topS 47) z
def leafD (d : PyData) : Prop := (∃ x, d = eS x) ∨ ∃ i : Nat, d = eN i
theorem ev_tLT (L : Bl mg) {z : Fz} {σ : L2.St} {B : Hp} {p1 p2 pos : Pos} {k : Nat} : EV (fxSa P w K mg base z) (.Tuple [.Name "list" p1, .Name "tuple" p2] k pos) σ B (tysM ["list", "tuple"]) := ev_tys (X := fxSa P w K mg base z) (ts := ["list", "tuple"]) (ea_cons (ev_ty L.list boot_list) (ea_cons (ev_ty L.tuple boot_tuple) ea_nil)) (by decide)
theorem ev_tBS (L : Bl mg) {z : Fz} {σ : L2.St} {B : Hp} {p1 p2 pos : Pos} {k : Nat} : EV (fxSa P w K mg base z) (.Tuple [.Name "bool" p1, .Name "str" p2] k pos) σ B (tysM ["bool", "str"]) := ev_tys (X := fxSa P w K mg base z) (ts := ["bool", "str"]) (ea_cons (ev_ty (T := "bool") L.bool (by decide +kernel)) (ea_cons (ev_ty (T := "str") L.str (by decide +kernel)) ea_nil)) (by decide)
theorem ok_sa0 (L : Bl mg) (D : Gd K mg "_law_same" (topS 47) []) : Gf P w K mg base 1 "_law_same" (spSa K leafD) :=
  D.pure (k := 0) scSa (fun _ => rfl) (fun _ _ _ _ _ _ us hl => match us, hl with | [_, _], _ => rfl) fun z vs B d hp ha sb hr => by
    obtain ⟨va, vb, rfl, h1, h2⟩ := allM2 ha
    rcases hp with ⟨x, rfl⟩ | ⟨i, rfl⟩
    · refine b_cons (s_skip sb (et_val (ev_isiTT (X := fxSa P w K mg base z) (d := eS x) (r := false) L.isi (ev_var 1 rfl h2) (ev_tLT L) (by show kitBs "str" _ = _; decide +kernel))) fun B1 H1 x1 => ?_)
      have h1 := dp_same x1.b h1
      have h2 := dp_same x1.b h2
      refine b_cons (s_take x1.s (ET.is (et_or (X := fxSa P w K mg base z) (et_isN (X := fxSa P w K mg base z) (ev_var (P := dt K (eS x)) 1 rfl h2)) (fun _ => et_val (ev_isiTT (X := fxSa P w K mg base z) (d := eS x) (r := true) L.isi (ev_var 1 rfl h2) (ev_tBS L) (by show kitBs "str" _ = _; decide +kernel)))) rfl) fun B2 H2 x2 => ?_)
      have h1 := dp_same x2.b h1
      have h2 := dp_same x2.b h2
      refine b_cons (s_retD (x1.trans x2) (ev_and3 (X := fxSa P w K mg base z) (EV.is (ev_eqS (ev_var (P := dt K (eS x)) 0 rfl h1) (ev_var (P := dt K (eS x)) 1 rfl h2)) (by simp)) (EV.is (ev_eqB (ev_isi (d := eS x) (b := false) L.isi (ev_var 0 rfl h1) (ev_ty (T := "bool") L.bool (by decide +kernel)) (by show kitB "str" _ = _; decide +kernel)) (ev_isi (d := eS x) (b := false) L.isi (ev_var 1 rfl h2) (ev_ty (T := "bool") L.bool (by decide +kernel)) (by show kitB "str" _ = _; decide +kernel))) rfl) (EV.is (ev_eqB (ev_isN (ev_var (P := dt K (eS x)) 0 rfl h1)) (ev_isN (ev_var (P := dt K (eS x)) 1 rfl h2))) rfl)))
    · refine b_cons (s_skip sb (et_val (ev_isiTT (X := fxSa P w K mg base z) (d := eN i) (r := false) L.isi (ev_var 1 rfl h2) (ev_tLT L) (by show kitBs "int" _ = _; decide +kernel))) fun B1 H1 x1 => ?_)
      have h1 := dp_same x1.b h1
      have h2 := dp_same x1.b h2
      refine b_cons (s_skip x1.s (ET.is (et_or (X := fxSa P w K mg base z) (et_isN (X := fxSa P w K mg base z) (ev_var (P := dt K (eN i)) 1 rfl h2)) (fun _ => et_val (ev_isiTT (X := fxSa P w K mg base z) (d := eN i) (r := false) L.isi (ev_var 1 rfl h2) (ev_tBS L) (by show kitBs "int" _ = _; decide +kernel)))) rfl) fun B2 H2 x2 => ?_)
      have h1 := dp_same x2.b h1
      have h2 := dp_same x2.b h2
      refine b_cons (s_retD (x1.trans x2) (ev_and3 (X := fxSa P w K mg base z) (ev_isi (d := eN i) (b := true) L.isi (ev_var 0 rfl h1) (ev_ty (T := "int") L.int (by decide +kernel)) (by show kitB "int" _ = _; decide +kernel)) (EV.is (ev_not (ev_isi (d := eN i) (b := false) L.isi (ev_var 0 rfl h1) (ev_ty (T := "bool") L.bool (by decide +kernel)) (by show kitB "int" _ = _; decide +kernel))) rfl) (EV.is (ev_eqN (ev_var (P := dt K (eN i)) 0 rfl h1) (ev_var (P := dt K (eN i)) 1 rfl h2) hr.u64) (by simp))))
/-- a tuple of things that are the same -/
def tupD (ok : PyData → Prop) (d : PyData) : Prop := ∃ ds, d = .tuple ds ∧ ds.length ≤ 1000 ∧ ∀ x ∈ ds, ok x
def lstD (ok : PyData → Prop) (d : PyData) : Prop := ∃ ds, d = .list ds ∧ ds.length ≤ 1000 ∧ ∀ x ∈ ds, ok x
theorem zip_same {ds : List PyData} {q : PyData × PyData} (h : q ∈ ds.zip ds) : q.1 = q.2 ∧ q.1 ∈ ds := by
  obtain ⟨i, hi⟩ := List.mem_iff_getElem?.mp h
  rw [List.getElem?_zip_eq_some] at hi
  exact ⟨Option.some.inj (hi.1.symm.trans hi.2), List.mem_of_getElem? hi.1⟩
theorem ok_sa1 (L : Bl mg) {ok : PyData → Prop} (G : Gf P w K mg base 1 "_law_same" (spSa K ok)) (D : Gd K mg "_law_same" (topS 47) []) : Gf P w K mg base 2 "_law_same" (spSa K (tupD ok)) :=
  D.pure (k := 1) scSa (fun _ => rfl) (fun _ _ _ _ _ _ us hl => match us, hl with | [_, _], _ => rfl) fun z vs B d hp ha sb hr => by
    obtain ⟨va, vb, rfl, h1, h2⟩ := allM2 ha
    obtain ⟨ds, rfl, hz, hok⟩ := hp
    refine b_cons (s_take sb (et_val (ev_isiTT (X := fxSa P w K mg base z) (d := .tuple ds) (r := true) L.isi (ev_var 1 rfl h2) (ev_tLT L) (by show kitBs "tuple" _ = _; decide +kernel))) fun B1 H1 x1 => ?_)
    have h1 := dp_same x1.b h1
    have h2 := dp_same x1.b h2
    refine b_cons (s_skip x1.s (ET.is (et_or (X := fxSa P w K mg base z) (et_neB (ev_isi (d := .tuple ds) (b := false) L.isi (ev_var 0 rfl h1) (ev_ty L.list boot_list) (by show kitB "tuple" _ = _; decide +kernel)) (ev_isi (d := .tuple ds) (b := false) L.isi (ev_var 1 rfl h2) (ev_ty L.list boot_list) (by show kitB "tuple" _ = _; decide +kernel))) (fun _ => et_neB (ev_isi (d := .tuple ds) (b := true) L.isi (ev_var 0 rfl h1) (ev_ty L.tuple boot_tuple) (by show kitB "tuple" _ = _; decide +kernel)) (ev_isi (d := .tuple ds) (b := true) L.isi (ev_var 1 rfl h2) (ev_ty L.tuple boot_tuple) (by show kitB "tuple" _ = _; decide +kernel)))) rfl) fun B2 H2 x2 => ?_)
    have h1 := dp_same x2.b h1
    have h2 := dp_same x2.b h2
    refine b_cons (s_retD (x1.trans x2) (EV.is (ev_and (X := fxSa P w K mg base z) (k := true) (j := true) (EV.is (ev_eqN (ev_lenT L.len (ev_var (P := dt K (.tuple ds)) 0 rfl h1)) (ev_lenT L.len (ev_var (P := dt K (.tuple ds)) 1 rfl h2)) hr.u64) (by simp)) (fun _ => EV.is (ev_all (X := fxSa P w K mg base z) (bs := (ds.zip ds).map fun _ => true) rfl L.all (EV.is (ev_lcM (X := fxSa P w K mg base z) (own := [("_law_mine", 2), ("_law_its", 3)]) (its := ds.zip ds) (g := fun _ => .bool true) rfl scSa.nd (blkOk_by (N := sSa) (sc := defScope (topS 47)) (by decide +kernel)) (sn_zipT L.zip (ev_var (P := dt K (.tuple ds)) 0 rfl h1) (ev_var (P := dt K (.tuple ds)) 1 rfl h2) rfl) (by rw [List.length_zip]; omega) fun q hq B' s v hv => ?_) (by rw [List.map_map]; rfl))) (by simp))) rfl))
    obtain ⟨T, x, y, rfl, hT, px, py⟩ := hv
    obtain ⟨e, hm⟩ := zip_same hq
    rw [← e] at py
    exact ⟨[some va, some vb, some x, some y], rfl, fun zz H' s' => tj_pair 2 3 rfl scSa.nd (s' _ _ hT), fun zz => ev_cal (X := bx (fxSa P w K mg base z) _ zz) (t := q.1) G hr (ea_cons (ev_var (P := dt K q.1) 2 rfl px) (ea_cons (ev_var (P := dt K q.1) 3 rfl py) ea_nil)) (hok q.1 hm)⟩
theorem ok_sa2 (L : Bl mg) {ok : PyData → Prop} (G : Gf P w K mg base 2 "_law_same" (spSa K ok)) (D : Gd K mg "_law_same" (topS 47) []) : Gf P w K mg base 3 "_law_same" (spSa K (lstD ok)) :=
  D.pure (k := 2) scSa (fun _ => rfl) (fun _ _ _ _ _ _ us hl => match us, hl with | [_, _], _ => rfl) fun z vs B d hp ha sb hr => by
    obtain ⟨va, vb, rfl, h1, h2⟩ := allM2 ha
    obtain ⟨ds, rfl, hz, hok⟩ := hp
    refine b_cons (s_take sb (et_val (ev_isiTT (X := fxSa P w K mg base z) (d := .list ds) (r := true) L.isi (ev_var 1 rfl h2) (ev_tLT L) (by show kitBs "list" _ = _; decide +kernel))) fun B1 H1 x1 => ?_)
    have h1 := dp_same x1.b h1
    have h2 := dp_same x1.b h2
    refine b_cons (s_skip x1.s (ET.is (et_or (X := fxSa P w K mg base z) (et_neB (ev_isi (d := .list ds) (b := true) L.isi (ev_var 0 rfl h1) (ev_ty L.list boot_list) (by show kitB "list" _ = _; decide +kernel)) (ev_isi (d := .list ds) (b := true) L.isi (ev_var 1 rfl h2) (ev_ty L.list boot_list) (by show kitB "list" _ = _; decide +kernel))) (fun _ => et_neB (ev_isi (d := .list ds) (b := false) L.isi (ev_var 0 rfl h1) (ev_ty L.tuple boot_tuple) (by show kitB "list" _ = _; decide +kernel)) (ev_isi (d := .list ds) (b := false) L.isi (ev_var 1 rfl h2) (ev_ty L.tuple boot_tuple) (by show kitB "list" _ = _; decide +kernel)))) rfl) fun B2 H2 x2 => ?_)
    have h1 := dp_same x2.b h1
    have h2 := dp_same x2.b h2
    refine b_cons (s_retD (x1.trans x2) (EV.is (ev_and (X := fxSa P w K mg base z) (k := true) (j := true) (EV.is (ev_eqN (ev_lenL L.len (ev_var (P := dt K (.list ds)) 0 rfl h1)) (ev_lenL L.len (ev_var (P := dt K (.list ds)) 1 rfl h2)) hr.u64) (by simp)) (fun _ => EV.is (ev_all (X := fxSa P w K mg base z) (bs := (ds.zip ds).map fun _ => true) rfl L.all (EV.is (ev_lcM (X := fxSa P w K mg base z) (own := [("_law_mine", 2), ("_law_its", 3)]) (its := ds.zip ds) (g := fun _ => .bool true) rfl scSa.nd (blkOk_by (N := sSa) (sc := defScope (topS 47)) (by decide +kernel)) (sn_zip L.zip (ev_var (P := dt K (.list ds)) 0 rfl h1) (ev_var (P := dt K (.list ds)) 1 rfl h2) rfl) (by rw [List.length_zip]; omega) fun q hq B' s v hv => ?_) (by rw [List.map_map]; rfl))) (by simp))) rfl))
    obtain ⟨T, x, y, rfl, hT, px, py⟩ := hv
    obtain ⟨e, hm⟩ := zip_same hq
    rw [← e] at py
    exact ⟨[some va, some vb, some x, some y], rfl, fun zz H' s' => tj_pair 2 3 rfl scSa.nd (s' _ _ hT), fun zz => ev_cal (X := bx (fxSa P w K mg base z) _ zz) (t := q.1) G hr (ea_cons (ev_var (P := dt K q.1) 2 rfl px) (ea_cons (ev_var (P := dt K q.1) 3 rfl py) ea_nil)) (hok q.1 hm)⟩
end
end K7
/-! _law_by_hand. -/
namespace K7
set_option pp.maxSteps 300
open PySem PySem.Spec PyProof.Rows L2
/-- x = [..], a new list to be written -/
theorem s_newL {X : Cx} {es : List Expr} {σ : L2.St} {B H : Hp} {D : Ends} {Ps : List Mp} {p1 pe pos : Pos} {x : Str} (i : Nat) (hnd : X.N.Nodup) (sb : Same B H) (h : EA X es σ B Ps) (hl : Ps.length ≤ 1000) (k : ∀ r vs B1 H1, Nx B H B1 H1 → AllM Ps vs B1 → H1 r = none → D.nx (σ.set i (some (.ref r))) (upd H1 r (.lst vs))) (hN : X.N[i]? = some x := by rfl) (hx : Loc X.env.scope x := by first | exact .inl rfl | exact .inr rfl)
    (hs : swapsWith (.List es pe) (some (.Name x p1)) pos.line X.env = pure false := by rfl) (hf : X.fn x = true ∨ X.env.scope.names.lookup x = some .local := by first | exact .inl rfl | exact .inr rfl) : wS X (.Assign [.Name x p1] (.List es pe) pos) D σ H :=
  s_of (ps_set hnd hN hx (pe_lst pa_w) hs hf) (h H sb _ fun vs B1 H1 x1 pv => ⟨Nat.le_trans (Nat.le_of_eq (allM_len pv)) (Nat.le_trans hl (by decide)), fun r hr => k r vs B1 H1 x1 pv hr⟩)
theorem ev_repS {X : Cx} {a b : Expr} {σ : L2.St} {B : Hp} {pos : Pos} {k : Nat} {l : List Str} (ha : EV X a σ B (dt X.K (eTS l))) (hb : EV X b σ B (dt X.K (eN k))) (hne : l ≠ []) (h2 : 2 ≤ k) (h9 : k ≤ 1000) (hl : l.length ≤ 1000) : EV X (.BinOp a .Mult b pos) σ B (dt X.K (eTS (List.replicate k l).flatten)) :=
  ev_bin op_repT ha hb fun x y B1 _ px py => by
    obtain ⟨t, xs, rfl, ht, hd⟩ := dp_t px
    have hln := dpa_len hd
    rw [List.length_map] at hln
    exact fun H s Q q => ⟨t, (k : Int), xs, rfl, dp_i py, same_t s ht, fun e => (by rw [e] at hln; exact hne (List.eq_nil_of_length_eq_zero hln.symm)), (by omega), (by omega), (by omega), fun r hr => by
      rw [Int.toNat_natCast]
      have x2 := (Nx.refl s).put (o := .tup (List.replicate k xs).flatten) hr
      refine q _ _ _ x2 (.tup (.inl (.inl upd_same)) ?_)
      have := dpa_rep (dpa_same x2.b hd) k
      rw [List.map_flatten, List.map_replicate]
      exact this⟩
/-- a written tuple of texts -/
def isStr : Expr → Bool
  | .Constant (.str _) _ _ => true
  | _ => false
def strOf : Expr → Str
  | .Constant (.str x) _ _ => x
  | _ => Str.ofString ""
theorem ea_strs {X : Cx} {σ : L2.St} {B : Hp} : ∀ es : List Expr, es.all isStr = true → EA X es σ B ((es.map fun e => eS (strOf e)).map (dt X.K))
  | [], _ => ea_nil
  | e :: es, h => by
    rw [List.all_cons, Bool.and_eq_true] at h
    rw [List.map_cons, List.map_cons]
    match e, h.1 with
    | .Constant (.str x) k p, _ => exact ea_cons ev_str (ea_strs es h.2)
theorem ev_strs {X : Cx} {σ : L2.St} {B : Hp} {es : List Expr} {p : Pos} {kk : Nat} (l : List Str) (h : es.all isStr = true) (h2 : es.map strOf = l) (hl : l.length ≤ 1000) : EV X (.Tuple es kk p) σ B (dt X.K (eTS l)) := by
  have h3 : (es.map fun e => eS (strOf e)) = l.map eS := by
    rw [← h2, List.map_map]
    rfl
  have := ea_strs (X := X) (σ := σ) (B := B) es h
  rw [h3] at this
  exact ev_tup this (by rw [List.length_map]; omega)
/-! ### the dial of four -/
abbrev dial4 : Mac := ⟨4, ["up", "down"], ["down", "up"], fun x => ((dialT 4).rows.lookup x).getD [], [0, 1, 2, 3]⟩
theorem dial4_eq : (dialT 4).mac = dial4 := by
  have h : srt (["up", "down"] : List Str) = (["down", "up"] : List Str) := (srt_uniq (ys := (["down", "up"] : List Str)) (List.Perm.swap _ _ _) (by decide +kernel)).symm
  show (⟨4, ["up", "down"], srt (["up", "down"] : List Str), fun x => ((dialT 4).rows.lookup x).getD [], (List.range 4).map fun i : Nat => (i : Int)⟩ : Mac) = _
  rw [h]
  rfl
abbrev up : Str := "up"
abbrev down : Str := "down"
theorem hand1 : firm dial4 [up, up, up, up, up, up, up, up, up] = [up, up, up] := by decide +kernel
theorem hand2 : firm dial4 [up, down, up, down] = [up, down, up, down] := by decide +kernel
theorem hand3 : goers dial4 [down, down, down, down] [0, 1] = [0, 1, 2, 3] := by decide +kernel
theorem hand_ok {l : Log} (h : l.all (fun x => decide (x = look) || decide (x ∈ dial4.ks)) = true) (h2 : l.length ≤ 200) : LogOk dial4 l := ⟨fun x hx => by
  have := List.all_eq_true.mp h x hx
  rw [Bool.or_eq_true, decide_eq_true_iff, decide_eq_true_iff] at this
  exact this, h2⟩
abbrev handL : List Log := [[up, down, up, down, up, down, up, down, up, down], [up, up, up, up, up, up, up, up, up], [down, up, down, up], [down, look, up, up, up, down]]
abbrev sBh : List Str := ["_law_mat", "_law_rows_so", "_law_host_so", "_law_got", "_law_own"]
theorem scBh : FnScope sBh [] (defScope (topS 72)) := ⟨rfl, rfl, rfl, by decide +kernel, rfl, by decide +kernel, by decide +kernel⟩
abbrev spBh (K : PySem.W.Frag) : Sp := spD (fun _ : Unit => []) (fun _ => True) fun _ => dt K (.bool true)
section
variable {P : Program} {w : World} {K : PySem.W.Frag} {mg : Str → Option Value} {base : Heap} {C : Addr}
abbrev fxBh (P : Program) (w : World) (K : PySem.W.Frag) (mg : Str → Option Value) (base : Heap) (z : Fz) : Cx := fx P w K mg base sBh "_law_by_hand" (topS 72) z
set_option maxHeartbeats 2000000 in
theorem ok_bh (L : Bl mg) (Gd1 : Gf P w K mg base 1 "_law_dial" (spDi K)) (Gl : Gf P w K mg base 8 "_law_left_right" (spLr K)) (Gh : Gf P w K mg base 6 "_law_host" (spHs K C)) (Gf1 : Gf P w K mg base 7 "firm" (spFirm K C)) (Gg : Gf P w K mg base 6 "goers" (spGrs K C)) (Gs : Gf P w K mg base 3 "_law_same" (spSa K (lstD (tupD leafD)))) (D : Gd K mg "_law_by_hand" (topS 72) []) : Gf P w K mg base 9 "_law_by_hand" (spBh K) :=
  D.pure (k := 8) scBh (fun _ => rfl) (fun _ _ _ _ _ _ us hl => match us, hl with | [], _ => rfl) fun z vs B _ _ ha sb hr => by
    have := allM0 ha
    subst this
    have h4 := dial4_ok
    have hM := h4.mac
    rw [dial4_eq] at hM
    refine b_cons (s_set (P := matM K (dialT 4)) 0 scBh.nd sb (ev_call (T := Nat) (res := fun m => matM K (dialT m)) 4 Gd1 (hr.mono (by decide)) (ea_cons ev_int ea_nil) (by decide)) fun v0 B1 H1 x1 p0 => ?_)
    refine b_cons (s_newL (Ps := [dt K (eTS handL[0]), dt K (eTS handL[1]), dt K (eTS handL[2])]) 1 scBh.nd x1.s (ea_cons (ev_repS (l := [up, down]) (k := 5) (ev_strs _ rfl rfl (by decide)) ev_int (by simp) (by decide) (by decide) (by decide)) (ea_cons (ev_repS (l := [up]) (k := 9) (ev_strs _ rfl rfl (by decide)) ev_int (by simp) (by decide) (by decide) (by decide)) (ea_cons (ev_repS (l := [down, up]) (k := 2) (ev_strs _ rfl rfl (by decide)) ev_int (by simp) (by decide) (by decide) (by decide)) ea_nil))) (by simp) fun r vs B2 H2 x2 pv hr2 => ?_)
    obtain ⟨a, b, c, rfl, pa, pb, pc⟩ := allM3 pv
    have x02 := x1.trans x2
    have br : B2 r = none := same_no x2.s hr2
    have hr0 : z.H r = none := same_no x02.h hr2
    have S2 : Same B2 (upd H2 r (.lst [a, b, c])) := same_over x2.s br
    change wB (fxBh P w K mg base z) _ _ [some v0, some (.ref r), none, none, none] _
    refine b_cons (s_app (P := dt K (eTS handL[3])) 1 S2 rfl upd_same (show 3 < 100000 by decide) (ev_strs _ rfl rfl (by decide)) fun v3 B3 H3 x3 p3 => ?_)
    have br3 := x3.off upd_same br
    have hsee := ((x02.hid (o := .lst [a, b, c]) hr0 br).trans x3).hid (o := .lst ([a, b, c] ++ [v3])) hr0 br3
    have y := hsee.see hr0 br3 upd_same
    have s3 : Same B3 (upd B3 r (.lst ([a, b, c] ++ [v3]))) := same_new br3
    have prow : Dp K (upd B3 r (.lst ([a, b, c] ++ [v3]))) (.ref r) (.list (handL.map eTS)) := .lst (.inl (.inl upd_same)) (.cons (dp_same (x3.b.trans s3) pa) (.cons (dp_same (x3.b.trans s3) pb) (.cons (dp_same (x3.b.trans s3) pc) (.cons (dp_same s3 p3) .nil))))
    generalize upd B3 r (.lst ([a, b, c] ++ [v3])) = B4 at y s3 prow
    generalize upd H3 r (.lst ([a, b, c] ++ [v3])) = H4 at y
    have q0 := (matM K (dialT 4)).mono (x2.b.trans (x3.b.trans s3)) p0
    refine b_cons (s_skip y.s (ET.is (et_not (et_val (ev_all (X := fxBh P w K mg base z) (bs := handL.map fun _ => true) rfl L.all (EV.is (ev_lcM (X := fxBh P w K mg base z) (own := [("_law_own", 4)]) (its := handL) (g := fun _ => .bool true) rfl scBh.nd (blkOk_by (N := sBh) (sc := defScope (topS 72)) (by decide +kernel)) (sn_enc (sn_list (ev_var (P := dt K (.list (handL.map eTS))) 1 rfl prow))) (by decide) fun l hl B' s v hv => ?_) (by rw [List.map_map]; rfl))))) rfl) fun B5 H5 x5 => ?_)
    · refine ⟨[some v0, some (.ref r), none, none, some v], rfl, fun zz H' s' => tj_name 4 scBh.nd, fun zz => ev_cal (X := bx (fxBh P w K mg base z) _ zz) (t := (dialT 4, l)) Gl hr (ea_cons (ev_var (P := matM K (dialT 4)) 0 rfl ((matM K (dialT 4)).mono s q0)) (ea_cons (ev_var (P := dt K (eTS l)) 4 rfl hv) ea_nil)) ⟨h4, ?_⟩⟩
      rw [dial4_eq]
      have key : ∀ l ∈ handL, l.all (fun x => decide (x = look) || decide (x ∈ dial4.ks)) = true ∧ l.length ≤ 10 := by decide +kernel
      exact ⟨hand_ok (key l hl).1 (Nat.le_trans (key l hl).2 (by decide)), (key l hl).2⟩
    have q0 := (matM K (dialT 4)).mono x5.b q0
    refine b_cons (s_set (P := machM K C dial4) 2 scBh.nd x5.s (EV.imp (ev_call (X := fxBh P w K mg base z) (σ := [some v0, some (.ref r), none, none, none]) (dialT 4) Gh (hr.mono (by decide)) (ea_cons (ev_var (P := matM K (dialT 4)) 0 rfl q0) ea_nil) h4) fun v B' _ p => by
      have p : (machM K C (dialT 4).mac).p v B' := p
      rwa [dial4_eq] at p) fun v2 B6 H6 x6 ph => ?_)
    change wB (fxBh P w K mg base z) _ _ [some v0, some (.ref r), some v2, none, none] _
    refine b_cons (s_newL (Ps := [dt K (eTS [up, up, up]), dt K (eTS [up, down, up, down])]) 3 scBh.nd x6.s (ea_cons (EV.is (ev_call (X := fxBh P w K mg base z) (dial4, [up, up, up, up, up, up, up, up, up]) Gf1 (hr.mono (by decide)) (ea_cons (ev_var (P := machM K C dial4) 2 rfl ph) (ea_cons (ev_repS (l := [up]) (k := 9) (ev_strs _ rfl rfl (by decide)) ev_int (by simp) (by decide) (by decide) (by decide)) ea_nil)) ⟨hM, hand_ok (by decide +kernel) (by decide)⟩) (by show eTS (firm dial4 _) = _; rw [hand1])) (ea_cons (EV.is (ev_call (X := fxBh P w K mg base z) (dial4, [up, down, up, down]) Gf1 (hr.mono (by decide)) (ea_cons (ev_var (P := machM K C dial4) 2 rfl ph) (ea_cons (ev_strs [up, down, up, down] rfl rfl (by decide)) ea_nil)) ⟨hM, hand_ok (by decide +kernel) (by decide)⟩) (by show eTS (firm dial4 _) = _; rw [hand2])) ea_nil)) (by simp) fun r2 vs B7 H7 x7 pv2 hr2' => ?_)
    obtain ⟨d, e, rfl, pd, pe⟩ := allM2 pv2
    have x07 := y.trans (x5.trans (x6.trans x7))
    have br2 : B7 r2 = none := same_no x7.s hr2'
    have hr02 : z.H r2 = none := same_no x07.h hr2'
    have ph7 := (machM K C dial4).mono x7.b ph
    change wB (fxBh P w K mg base z) _ _ [some v0, some (.ref r), some v2, some (.ref r2), none] _
    refine b_cons (s_app (P := dt K (eTN [0, 1, 2, 3])) 3 (same_over x7.s br2) rfl upd_same (show 2 < 100000 by decide) (EV.is (ev_call (X := fxBh P w K mg base z) (dial4, [down, down, down, down], some [0, 1]) Gg (hr.mono (by decide)) (ea_cons (ev_var (P := machM K C dial4) 2 rfl ph7) (ea_cons (ev_repS (l := [down]) (k := 4) (ev_strs _ rfl rfl (by decide)) ev_int (by simp) (by decide) (by decide) (by decide)) (ea_cons (EV.ofT (ev_nums [0, 1] rfl rfl (by decide))) ea_nil))) ⟨hM, hand_ok (by decide +kernel) (by decide), fun l' e => by
      injection e with e
      subst e
      exact ⟨by decide, by decide⟩⟩) (by show eTN (goers dial4 _ [0, 1]) = _; rw [hand3])) fun v8 B8 H8 x8 p8 => ?_)
    have br8 := x8.off upd_same br2
    have y2 := (((x07.hid (o := .lst [d, e]) hr02 br2).trans x8).hid (o := .lst ([d, e] ++ [v8])) hr02 br8).see hr02 br8 upd_same
    have s8 : Same B8 (upd B8 r2 (.lst ([d, e] ++ [v8]))) := same_new br8
    have dg : PyData := .list [eTS [up, up, up], eTS [up, down, up, down], eTN [0, 1, 2, 3]]
    have pgot : Dp K (upd B8 r2 (.lst ([d, e] ++ [v8]))) (.ref r2) (.list [eTS [up, up, up], eTS [up, down, up, down], eTN [0, 1, 2, 3]]) := .lst (.inl (.inl upd_same)) (.cons (dp_same (x8.b.trans s8) pd) (.cons (dp_same (x8.b.trans s8) pe) (.cons (dp_same s8 p8) .nil)))
    have hleafS : ∀ l : List Str, l.length ≤ 1000 → tupD leafD (eTS l) := fun l h => ⟨l.map eS, rfl, by rw [List.length_map]; exact h, fun x hx => by
      obtain ⟨s, _, rfl⟩ := List.mem_map.mp hx
      exact .inl ⟨s, rfl⟩⟩
    have hleafN : ∀ l : List Nat, l.length ≤ 1000 → tupD leafD (eTN l) := fun l h => ⟨l.map eN, rfl, by rw [List.length_map]; exact h, fun x hx => by
      obtain ⟨s, _, rfl⟩ := List.mem_map.mp hx
      exact .inr ⟨s, rfl⟩⟩
    exact b_cons (s_retD y2 (ev_call (X := fxBh P w K mg base z) (.list [eTS [up, up, up], eTS [up, down, up, down], eTN [0, 1, 2, 3]]) Gs (hr.mono (by decide)) (ea_cons (ev_var (P := dt K (.list [eTS [up, up, up], eTS [up, down, up, down], eTN [0, 1, 2, 3]])) 3 rfl pgot) (ea_cons (ev_lst (ds := [eTS [up, up, up], eTS [up, down, up, down], eTN [0, 1, 2, 3]]) (ea_cons (ev_repS (l := [up]) (k := 3) (ev_strs _ rfl rfl (by decide)) ev_int (by simp) (by decide) (by decide) (by decide)) (ea_cons (ev_strs [up, down, up, down] rfl rfl (by decide)) (ea_cons (ev_nums [0, 1, 2, 3] rfl rfl (by decide)) ea_nil))) (show 3 ≤ 100000 by decide)) ea_nil)) ⟨_, rfl, by simp, fun x hx => by
      rcases List.mem_cons.mp hx with rfl | hx
      · exact hleafS _ (by decide)
      · rcases List.mem_cons.mp hx with rfl | hx
        · exact hleafS _ (by decide)
        · rw [List.mem_singleton.mp hx]
          exact hleafN _ (by decide)⟩))
end
end K7
/-! law. -/
namespace K7
set_option pp.maxSteps 300
open PySem PySem.Spec PyProof.Rows L2 LamX
theorem tabs_upd {T : List (Addr × Str)} {H : Hp} {r : Addr} {o : HO} {xs : List V} (t : Tabs T H) (h : H r = some (.lst xs)) : Tabs T (upd H r o) := fun p hp => by
  obtain ⟨ps, h1, h2, h3⟩ := t p hp
  refine ⟨ps, ?_, h2, fun pos cv hc => ?_⟩
  · rw [upd_ne (fun z => by rw [z, h] at h1; cases h1)]
    exact h1
  · obtain ⟨c', e1, e2⟩ := h3 pos cv hc
    refine ⟨c', e1, ?_⟩
    rw [upd_ne (fun z => by rw [z, h] at e2; cases e2)]
    exact e2
theorem tabs_new {T : List (Addr × Str)} {H : Hp} {r : Addr} {o : HO} (t : Tabs T H) (h : H r = none) : Tabs T (upd H r o) := t.ext (same_new h)
abbrev sLaw : List Str := ["_law_script", "_law_cells_here", "_law_k", "_law_box_here", "_law_turn"]
theorem scLaw : FnScope sLaw ["_law_script"] (defScope (topS 74)) := ⟨rfl, rfl, rfl, by decide +kernel, rfl, by decide +kernel, by decide +kernel⟩
abbrev spLaw (K : PySem.W.Frag) (T : List (Addr × Str)) : Sp := fun vs H Q _ => ∃ (l : List Int) (B : Hp) (va : V), vs = [va] ∧ Same B H ∧ NoT B ∧ Tabs T H ∧ Dp K B va (.list (l.map eI)) ∧ l.length ≤ 63 ∧ ∀ H1, Q (.bl true) H1
section
variable {P : Program} {w : World} {K : PySem.W.Frag} {mg : Str → Option Value} {base : Heap} {C : Addr}
abbrev fxLaw (P : Program) (w : World) (K : PySem.W.Frag) (mg : Str → Option Value) (base : Heap) (z : Fz) : Cx := fx P w K mg base sLaw "law" (topS 74) z
/-- the four walks of one box -/
theorem law_four {T : List (Addr × Str)} (L : Bl mg) (G : Gf P w K mg base 10 "_law_right" (spRt T)) (z : Fz) (hr : Room 10 (fxLaw P w K mg base z).A) {va vc : V} {k : Nat} {q : Addr} {B H : Hp} {p1 p2 p3 p4 p5 p6 p7 pos : Pos} {kk : Nat} {scope : Scope} {Q : VK}
    (ok : BlkOk (fxLaw P w K mg base z).N (fxLaw P w K mg base z).env.scope scope [("_law_turn", 4)]) (S : BSt q B H (1200 + 0)) (nt : NoT B) (tb : Tabs T H)
    (hl : ∀ zz, Loc (bx (fxLaw P w K mg base z) scope zz).env.scope ("_law_turn" : Str)) (hf : ∀ zz, (bx (fxLaw P w K mg base z) scope zz).fn "_law_turn" = true ∨ (bx (fxLaw P w K mg base z) scope zz).env.scope.names.lookup ("_law_turn" : Str) = some .local)
    (hv : ∀ zz, Vis (bx (fxLaw P w K mg base z) scope zz).env.scope ("_law_box_here" : Str)) (hg : ∀ zz, Gl (bx (fxLaw P w K mg base z) scope zz) "_law_right")
    (hQ : ∀ v B1 H1, Same B B1 → Same B1 H1 → NoT B1 → Tabs T H1 → Dp K B1 v (.list [.bool true, .bool true, .bool true, .bool true]) → Q v H1) :
    wE (fxLaw P w K mg base z) (.ListComp (.Call (.Name "_law_right" p1) [.Name "_law_box_here" p2] [] p3) [⟨.Name "_law_turn" p4, .Call (.Name "range" p5) [.Constant (.int 4) kk p6] [] pos, [], 0⟩] scope p7) [some va, some vc, some (.int (k : Int)), some (.ref q), none] H Q := by
  refine e_of (pe_lc (own := [("_law_turn", 4)]) (g := wGz (fxLaw P w K mg base z) scope (.Name "_law_turn" p4)) (tt := wTz (fxLaw P w K mg base z) scope []) (te := wEz (fxLaw P w K mg base z) scope (.Call (.Name "_law_right" p1) [.Name "_law_box_here" p2] [] p3)) rfl scLaw.nd pi_w ok (fun s H C cl fp => ⟨fun pins s' σ' H' v u Q I r h => wG_o (h ⟨s, H, C, cl, fp⟩) pins s' u I r⟩)
      (fun s H C cl fp => ⟨fun pins s' σ' H' Q I h => wTs_o (h ⟨s, H, C, cl, fp⟩) pins s' I⟩) (fun s H C cl fp => ⟨fun pins s' σ' H' Q I h => wE_o (h ⟨s, H, C, cl, fp⟩) pins s' I⟩) (fun _ => rfl)) ?_
  have src : SN (fxLaw P w K mg base z) (.Name "_law_turn" p4) (.Call (.Name "range" p5) [.Constant (.int 4) kk p6] [] pos) [some va, some vc, some (.int (k : Int)), some (.ref q), none] B (List.range 4) (fun i => dt K (.int (i : Nat))) := sn_range (n := 4) L.range ev_int (by decide)
  refine src H S.s _ fun J B1 H1 x1 wk D hD => ?_
  have S1 := S.nx x1
  have b1D : B1 D = none := same_no S1.s hD
  have hDq : D ≠ q := fun e => S1.x.som (e ▸ hD)
  refine lc_it wk (fun i H' => ∃ B', BSt q B' H' ((4 - i) * 300) ∧ NoT B' ∧ Tabs T H' ∧ B' D = none ∧ H' D = some (.lst (List.replicate i (.bl true))) ∧ Same B1 B') ?_ ?_ ?_ ?_
  · exact ⟨B1, S1.hid hDq b1D, nt.nx x1, tabs_new (tb.ext x1.h) hD, b1D, upd_same, Same.refl _⟩
  · rintro i H' _ ⟨B', S', _, _, _, _, s'⟩
    exact s'.trans S'.s
  · rintro i x H' H'' hi ⟨B', S', nt', tb', bD, hacc, s'⟩ ⟨sy, it, B2, hit, xy, hS⟩ zz
    obtain ⟨B3, x3, s3⟩ := xy.more s' S'.s
    have S3 := S'.nx x3
    have hi4 : i < 4 := by simpa using hi
    refine tj_name (X := bx (fxLaw P w K mg base z) scope zz) 4 scLaw.nd rfl (hl zz) (hf zz) _ ⟨rfl, ?_⟩
    intro z2
    refine (ets_nil (X := bx (fxLaw P w K mg base z) scope z2) (B := B3)) H'' x3.s _ fun B4 H4 x4 => iteT ?_
    have S4 := S3.nx x4
    have hacc4 := x4.h _ _ (x3.h _ _ hacc)
    have bD4 := x4.off (x3.h _ _ hacc) (x3.off hacc bD)
    intro z3
    refine w_call (X := bx (fxLaw P w K mg base z) scope z3) G hr ((ea_cons (X := bx (fxLaw P w K mg base z) scope z3) (ev_var (P := eqM (.ref q)) 3 rfl rfl rfl (hv z3)) ea_nil) H4 S4.s _ fun vs B5 H5 x5 pv => ?_) (hg := hg z3)
    obtain ⟨v, rfl, pm⟩ := allM1 pv
    have pm : v = .ref q := pm
    subst pm
    have S5 := S4.nx x5
    have nt5 := ((nt'.nx x3).nx x4).nx x5
    have tb5 := ((tb'.ext x3.h).ext x4.h).ext x5.h
    have hcnt : (4 - i) * 300 = 300 + (4 - (i + 1)) * 300 := by omega
    refine ⟨q, B5, (4 - (i + 1)) * 300, rfl, S5.le (by omega), nt5, tb5, fun B6 H6 xR S6 => ?_⟩
    have hacc5 := x5.h _ _ hacc4
    have bD5 := x5.off hacc4 bD4
    have hacc6 := xR.h D _ hDq (fun ps z => by cases z) hacc5
    have bD6 := xR.o D _ hacc5 bD5
    refine ⟨_, hacc6, ?_, B6, S6.hid hDq bD6, xR.nt, tabs_upd xR.tb hacc6, bD6, ?_, (s'.trans x3.b).trans (x4.b.trans (x5.b.trans xR.b))⟩
    · rw [List.length_replicate]
      exact Nat.lt_trans hi4 (by decide)
    · rw [upd_same, ← List.replicate_succ']
  · rintro H' ⟨B', S', nt', tb', bD, hacc, s'⟩
    have e4 : (List.range 4).length = 4 := rfl
    rw [e4] at hacc
    refine hQ _ (upd B' D (.lst (List.replicate 4 (.bl true)))) H' ((x1.b.trans s').trans (same_new bD)) (fun a u h => ?_) (fun a ps h => ?_) tb' (.lst (.inl (.inl upd_same)) (.cons (.bl _) (.cons (.bl _) (.cons (.bl _) (.cons (.bl _) .nil)))))
    · by_cases e : a = D
      · subst e
        rw [upd_same] at h
        rw [hacc]
        exact h
      · rw [upd_ne e] at h
        exact S'.s a u h
    · by_cases e : a = D
      · subst e
        rw [upd_same] at h
        cases h
      · rw [upd_ne e] at h
        exact nt' a ps h
set_option maxHeartbeats 2000000 in
theorem law_body {T : List (Addr × Str)} (L : Bl mg) (Gh : Gf P w K mg base 9 "_law_by_hand" (spBh K)) (Gc : Gf P w K mg base 1 "_law_cells" (spCl K)) (Gb : Gf P w K mg base 1 "_law_box" (spBx K)) (G : Gf P w K mg base 10 "_law_right" (spRt T)) (z : Fz) (vs : List V) (Q : VK) (hr : Room 10 (fxLaw P w K mg base z).A) (h : spLaw K T vs z.H Q z.E) :
    wB (fxLaw P w K mg base z) (defBody (topS 74)) { nx := fun _ H' => Q .non H', rt := Q } (L2.start sLaw vs) z.H := by
    obtain ⟨l, B, va, rfl, sb, nt, tb, h1, hl63, hQ⟩ := h
    refine b_cons (s_skip sb (ET.is (et_not (et_val (ev_call0 () Gh (hr.mono (by decide)) rfl True.intro))) rfl) fun B1 H1 x1 => ?_)
    refine b_cons (s_set (P := exD K (fun l : List Int => 1 ≤ l.length ∧ l.length ≤ 2) fun l => .list (l.map eI)) 1 scLaw.nd x1.s (ev_call l Gc (hr.mono (by decide)) (ea_cons (ev_var (P := dt K (.list (l.map eI))) 0 rfl (dp_same x1.b h1)) (ea_cons ev_int ea_nil)) hl63) fun vc B2 H2 x2 ⟨cl, ⟨hc1, hc2⟩, pc⟩ => ?_)
    change wB (fxLaw P w K mg base z) _ _ [some va, some vc, none, none, none] _
    have x02 := x1.trans x2
    refine b_cons (s_for (X := fxLaw P w K mg base z) PassesOwn.never rfl (sn_range (n := cl.length) L.range (EV.is (d' := eN cl.length) (ev_lenL L.len (ev_var (P := dt K (.list (cl.map eI))) 1 rfl pc)) (by rw [List.length_map])) (by omega)) x2.s
      (fun i σ' B' H' => (∃ o2 o3, σ' = [some va, some vc, o2, o3, none]) ∧ NoT B' ∧ Tabs T H' ∧ Same B2 B')
      (fun B3 H3 x3 => ⟨⟨none, none, rfl⟩, (nt.nx x02).nx x3, (tb.ext x02.h).ext x3.h, x3.b⟩)
      (fun i it σ' B' H' B3 H3 v hi ⟨⟨o2, o3, e⟩, nt', tb', s'⟩ x3 hv => ?_) fun σ' B' H' s1 s2 ⟨⟨o2, o3, e⟩, nt', tb', s'⟩ => ?_)
    · subst e
      have hit : i < cl.length ∧ it = i := by
        obtain ⟨a, b⟩ := List.getElem?_eq_some_iff.mp hi
        rw [List.length_range] at a
        rw [List.getElem_range] at b
        exact ⟨a, b.symm⟩
      obtain ⟨hic, rfl⟩ := hit
      obtain rfl := dp_i hv
      refine ⟨_, tj_name 2 scLaw.nd, ?_⟩
      change wB (fxLaw P w K mg base z) _ _ [some va, some vc, some (.int (it : Int)), o3, none] _
      have pc3 := dp_same (s'.trans x3.b) pc
      refine b_cons (s_of (ps_set (X := fxLaw P w K mg base z) (i := 3) scLaw.nd rfl (Or.inr rfl) pe_w rfl) (w_call (X := fxLaw P w K mg base z) Gb (hr.mono (by decide)) ((ea_cons (X := fxLaw P w K mg base z) (ev_var (P := dt K (.list (cl.map eI))) 1 rfl pc3) (ea_cons (ev_var (P := dt K (eN it)) 2 rfl (.int _)) ea_nil)) H3 x3.s _ fun vs B4 H4 x4 pv => ?_)))
      obtain ⟨u, v', rfl, pu, pv'⟩ := allM2 pv
      obtain rfl := dp_i pv'
      refine ⟨cl, it, B4, u, rfl, x4.s, pu, hic, by omega, fun p B5 H5 x5 b5p hp bx => ?_⟩
      change wB (fxLaw P w K mg base z) _ _ [some va, some vc, some (.int (it : Int)), some (.ref p), none] _
      have S5 : BSt p B5 H5 1000000 := ⟨x5.s, b5p, bx⟩
      have nt5 := ((nt'.nx x3).nx x4).nx x5
      have tb5 := ((tb'.ext x3.h).ext x4.h).ext x5.h
      refine b_cons (s_of (ps_if (pt_not (pt_val (pe_callB (cr_all rfl) rfl L.all (by decide +kernel) (pa_cons pe_w pa_nil)) (by intro _; rfl))) pb_w pb_w) ?_)
      refine law_four L G z hr ?_ (S5.le (by decide)) nt5 tb5 ?_ ?_ ?_ ?_ fun v B6 H6 s6 s6' nt6 tb6 pv6 => ?_
      · exact blkOk_by (N := sLaw) (sc := defScope (topS 74)) (by decide +kernel)
      · exact fun _ => .inl rfl
      · exact fun zz => (by first | exact Or.inl rfl | exact Or.inr rfl)
      · exact fun zz => (by first | exact Or.inl rfl | exact Or.inr (Or.inl rfl) | exact Or.inr (Or.inr rfl))
      · exact fun _ => rfl
      obtain ⟨a, xs, rfl, hla, hda⟩ := dp_l pv6
      have hbs : xs = [true, true, true, true].map V.bl := by
        cases hda with
        | cons h1 t1 => cases h1; cases t1 with
          | cons h2 t2 => cases h2; cases t2 with
            | cons h3 t3 => cases h3; cases t3 with
              | cons h4 t4 => cases h4; cases t4; rfl
      subst hbs
      refine ⟨a, [true, true, true, true], rfl, same_l s6' hla, true, rfl, iteF (b_nil ?_)⟩
      exact b_nil ⟨B6, x4.b.trans (x5.b.trans s6), s6', ⟨_, _, rfl⟩, nt6, tb6, (s'.trans x3.b).trans (x4.b.trans (x5.b.trans s6))⟩
    · subst e
      exact b_cons (s_ret s2 ev_bl fun v B5 H5 x5 p => by
        rw [dp_b p]
        exact hQ H5)
theorem fn_law {T : List (Addr × Str)} (L : Bl mg) (Gh : Gf P w K mg base 9 "_law_by_hand" (spBh K)) (Gc : Gf P w K mg base 1 "_law_cells" (spCl K)) (Gb : Gf P w K mg base 1 "_law_box" (spBx K)) (G : Gf P w K mg base 10 "_law_right" (spRt T)) {f : Addr} {fd : FuncData} (F : FunD K "law" "law" (defArgs (topS 74)) (defBody (topS 74)) (defScope (topS 74)) [] [] f fd) : FnOk P w K mg base CX0 11 f fd ["_law_script"] (spLaw K T) := by
  refine F.ok scLaw (fun vs H Q E h => ?_) fun cdv A outer s H vs Q E hr h => ⟨_, PSs.nox pb_w, law_body L Gh Gc Gb G ⟨f, cdv, A, outer, s, H, E⟩ vs Q hr h⟩
  obtain ⟨l, B, va, rfl, -⟩ := h
  rfl
end
end K7
/-! ### the head: what the top leaves -/
namespace K7
open PySem PySem.Spec PyProof.Rows L2
/-- the defs: name, place, defaults -/
def dfs : List (Str × Nat × List He.Dv) := [("is_number", 10, []), ("firsts_of", 11, []), ("blocks_of", 12, []), ("tops_of", 13, []), ("marks_of", 14, []), ("check_states", 17, []), ("checked", 18, []), ("by_size", 20, []), ("way", 21, []), ("image", 22, [.non]), ("marked", 23, []), ("behind", 24, []), ("left_out", 25, []), ("check_deed", 28, []), ("starts_of", 29, []), ("may_go", 30, []), ("goers", 31, [.non]), ("stays_for", 32, [.non]), ("can_all_go", 33, [.non]), ("is_firm", 34, []), ("firm", 35, []), ("twin_pairs", 36, []), ("is_twins", 37, []), ("first_logs", 38, []), ("are_twins", 39, []), ("pairs_of", 40, []), ("twins", 41, [])]
def lfs : List (Str × Nat × List He.Dv) := [("_law_box", 43, []), ("_law_take", 44, []), ("_law_cells", 45, []), ("_law_of", 46, []), ("_law_same", 47, []), ("_law_mixed", 48, []), ("_law_names", 49, []), ("_law_moves", 50, []), ("_law_machine", 51, []), ("_law_lamp", 52, []), ("_law_dial", 53, []), ("_law_copier", 54, []), ("_law_lamps", 55, []), ("_law_known", 56, []), ("_law_some_machine", 57, []), ("_law_tags", 58, []), ("_law_host", 59, []), ("_law_kinds", 60, []), ("_law_way", 61, []), ("_law_marks", 62, []), ("_law_equal", 63, []), ("_law_log", 64, []), ("_law_is_part", 65, []), ("_law_stays", 66, []), ("_law_some_states", 67, []), ("_law_without", 68, []), ("_law_tells", 69, []), ("_law_goes", 70, []), ("_law_left_right", 71, []), ("_law_by_hand", 72, []), ("_law_right", 73, []), ("law", 74, [])]
def mfs : List (Str × Str × Nat × List He.Dv) := [("__init__", "Machine.__init__", 0, [.non]), ("__getitem__", "Machine.__getitem__", 6, []), ("__contains__", "Machine.__contains__", 8, []), ("__call__", "Machine.__call__", 11, []), ("mark", "Machine.mark", 14, [])]
def dOf (p : Str × Nat × List He.Dv) : He.DefD := ⟨(p.1, none), p.1, p.1, defArgs (topS p.2.1), defBody (topS p.2.1), defScope (topS p.2.1), p.2.2, []⟩
def dMe (p : Str × Str × Nat × List He.Dv) : He.DefD := ⟨("Machine", some p.1), p.1, p.2.1, defArgs (inClass cM p.2.2.1), defBody (inClass cM p.2.2.1), defScope (inClass cM p.2.2.1), p.2.2.2, []⟩
def hFn : List He.DefD := dfs.map dOf ++ (lfs.map dOf ++ mfs.map dMe)
def hFr : List Str := ["len", "range", "tuple", "list", "sorted", "set", "enumerate", "zip", "all", "min", "max", "int", "abs", "str", "isinstance", "dict", "bool"]
def hNo : List Str := [aMany, aNames, aMoves, aShows, aMarks, aKinds]
def hMe : List Str := ["mark", "__getitem__", "__contains__", "__call__"]
def hFa : List He.Fa := [.str "LOOK" "?", .int "TRIPLE" 3, .glo "Machine", .cls "Machine", .mkr "Machine"] ++ (dfs.map (fun p => .glo p.1) ++ (lfs.map (fun p => .glo p.1) ++ (hFr.map .free ++ (hNo.map (fun f => .noat "Machine" f) ++ hMe.map (fun f => .meth "Machine" f)))))
/-- a property's getter -/
def gtP (K : PySem.W.Frag) (f : Str) : Addr := match PySem.W.recIn K (He.ma K (He.ga K "Machine") f) "property" with
  | some (.ref g :: _) => g
  | _ => 0
def prB (K : PySem.W.Frag) (f : Str) : Bool := He.eqO (PySem.W.findIn K (.ref (He.ga K "Machine")) f) (some (some (.ref (He.ma K (He.ga K "Machine") f)))) && (He.eqO (PySem.W.specialIn K (.ref (He.ma K (He.ga K "Machine") f)) "__get__") (some (some (.builtin "property.__get__"))) && (decide (PySem.W.takesIn K (.ref (He.ma K (He.ga K "Machine") f)) = some true) && (match PySem.W.recIn K (He.ma K (He.ga K "Machine") f) "property" with
  | some (.ref _ :: _) => true
  | _ => false)))
/-- a function at an address -/
def fnA (K : PySem.W.Frag) (a : Addr) : He.FnW := match K.lookup a with
  | some ⟨_, _, .func u, _⟩ => some (u.name, u.qualname, u.params, u.body, u.scope, u.globals, u.closure, u.builtins)
  | _ => none
def okA (K : PySem.W.Frag) (a : Addr) (q : Str) : Bool := PySem.W.keepIn K (.ref a) && (match K.lookup a with
  | some ⟨_, _, .func u, _⟩ => PySem.W.codeIn K u.code q && (He.dflB K u.defaults [] && He.kwdB K u.kwdefaults [])
  | _ => false)
def pfs : List (Str × Str × Nat) := [("many", "Machine.many", 1), ("names", "Machine.names", 2), ("shows", "Machine.shows", 3)]
def hEx (K : PySem.W.Frag) : Bool := PySem.W.fnIn K (He.ma K (He.ga K "Machine") "__getitem__") && (PySem.W.fnIn K (He.ma K (He.ga K "Machine") "__call__") && (pfs.all fun p => prB K p.1 && okA K (gtP K p.1) p.2.1))
def vA (p : Str × Str × Nat) : He.FnW := some (p.1, p.2.1, defArgs (inClass cM p.2.2), .stmts (defBody (inClass cM p.2.2)), defScope (inClass cM p.2.2), mainGlobals, [], builtinsNs)
def hTf : List He.Defn := [("twins", none)]
/-- what an object leads to: a function's code and defaults, a class's names, a dict's values, a property's functions -/
def hRf (o : Obj) : List Addr := match o.data with
  | .func u => He.refV u.code ++ He.refV u.defaults
  | .cls u => [u.ns]
  | .dict es _ => es.toList.flatMap fun q => He.refV q.val
  | .fields vs => (match o.cls with
    | .type n => (match n == "property" with
      | true => vs.toList.flatMap He.refV
      | false => [])
    | _ => [])
  | _ => []
def hLv (g : Addr → Option Obj) (as : List Addr) : List Addr := as.flatMap fun a => match g a with
  | some o => hRf o
  | none => []
def hUp (g : Addr → Option Obj) : Nat → List Addr → List Addr
  | 0, as => as
  | n + 1, as => as ++ hUp g n (hLv g as)
def hAs (g : Addr → Option Obj) : List Addr := hUp g 5 [mainGlobals]
abbrev hKg (g : Addr → Option Obj) : PySem.W.Frag := He.frT g (hAs g)
abbrev AlH : Type := Bool × Bool × Bool × List He.FnW × List He.FnW
/-- what is looked at -/
def obY (g : Addr → Option Obj) : AlH := (hFa.all fun f => f.ok (hKg g), hFn.all fun d => d.ok (hKg g), hEx (hKg g) && He.tabsB g hTf (hKg g), hFn.map fun d => He.fnW (hKg g) d.at_, pfs.map fun p => fnA (hKg g) (gtP (hKg g) p.1))
def vlY : AlH := (true, true, true, hFn.map He.DefD.val, pfs.map vA)
theorem tab_of {g : Addr → Option Obj} {K : PySem.W.Frag} (z : He.tabsB g hTf K = true) (p : He.Defn) (hp : p ∈ hTf) : PySem.W.codeHdIn K (He.cT K p).1 (He.cT K p).2 = true ∧ ∃ o, g (He.cT K p).2 = some o ∧ He.emptyTab o = true := by
  obtain ⟨x, y⟩ := He.ba (List.all_eq_true.mp z p hp)
  refine ⟨x, ?_⟩
  generalize g (He.cT K p).2 = r at y
  match r, y with
  | some o, y => exact ⟨o, rfl, y⟩
theorem says_of {w : World} {h : Heap} (e : obY h.get? = vlY) : He.SaysX hFa hFn [] hTf hEx w h (hKg h.get?) ∧ pfs.map (fun p => fnA (hKg h.get?) (gtP (hKg h.get?) p.1)) = pfs.map vA := by
  have e1 : (hFa.all fun f => f.ok (hKg h.get?)) = true := congrArg (fun z : AlH => z.1) e
  have e2 : (hFn.all fun d => d.ok (hKg h.get?)) = true := congrArg (fun z : AlH => z.2.1) e
  have e3 : (hEx (hKg h.get?) && He.tabsB h.get? hTf (hKg h.get?)) = true := congrArg (fun z : AlH => z.2.2.1) e
  have e4 : (hFn.map fun d => He.fnW (hKg h.get?) d.at_) = hFn.map He.DefD.val := congrArg (fun z : AlH => z.2.2.2.1) e
  have e5 : (pfs.map fun p => fnA (hKg h.get?) (gtP (hKg h.get?) p.1)) = pfs.map vA := congrArg (fun z : AlH => z.2.2.2.2) e
  obtain ⟨e3, e6⟩ := He.ba e3
  have t : He.obsT hFa hFn [] (hKg h.get?) = He.valT hFn [] w := by
    unfold He.obsT He.obsD
    rw [e1, e2, e4]
    rfl
  refine ⟨⟨t, e3, fun p hp => (tab_of e6 p hp).1, fun p hp => ?_, fun p hp => ?_⟩, e5⟩
  · obtain ⟨o, q, z⟩ := (tab_of e6 p hp).2
    exact He.frT_none q z
  · obtain ⟨o, q, z⟩ := (tab_of e6 p hp).2
    rw [q, He.emptyTab_eq z]
def hY : PySem.W.Hook where
  α := AlH
  obs := fun s => obY s.heap.get?
  val := fun _ => vlY
  says := fun w h => ∃ K : PySem.W.Frag, K.In h ∧ He.SaysX hFa hFn [] hTf hEx w h K ∧ pfs.map (fun p => fnA K (gtP K p.1)) = pfs.map vA
  of := fun _ _ e => ⟨_, He.frT_in, says_of e⟩
  keeps := fun _ _ _ ⟨K, hK, c, z⟩ k => ⟨K, PySem.W.Frag.In.keeps hK k, ⟨c.t, c.more, c.hd, c.out, fun p hp => k _ _ (c.empty p hp)⟩, z⟩
def obH (s : PySem.W.SharedT) : AlH := obY (HandSHeadRun.getT s)
theorem obH_eq (s : PySem.W.SharedT) : obH s = hY.obs s.abs := by
  have e : HandSHeadRun.getT s = s.abs.heap.get? := funext (HandSHeadRun.getT_eq s)
  show obY (HandSHeadRun.getT s) = obY s.abs.heap.get?
  rw [e]
abbrev RwH : PySem.W.OpenRow := PySem.W.OpenLaw.row PySem.Challenge.rw_leftlogs_k70_whole_one_by_one_is_right
def hLs0 : List Str := ["_wall", "Twice", "Unlike", "Look", "NoDeed", "NoState", "NoPlace", "LOOK", "TRIPLE", "paired", "Machine"]
def hLs : List Str := hLs0 ++ (dfs.map (·.1) ++ (lfs.map (·.1)).dropLast)
end K7
/-! The head's run, in parts. -/
namespace K7
open PySem PySem.W PySem.Spec PySem.Calls PyProof.Rows L2
set_option maxHeartbeats 0
noncomputable def hEnd (w : World) (os : OsState) : Option PySem.W.SharedT := HandSHeadRun.endF (HandSHeadRun.stepQ (HandSHeadRun.denQ HandSHeadRun.tabQ) RwH.prog w) 12000 RwH.prog w os
abbrev hQ : Program := PySem.W.view RwH.prog [74]
theorem run_a (w : World) (os : OsState) : (hEnd w os).map (fun s => (HandSHeadRun.looksF RwH.prog (boot_heap w.params) s.abs, HandSHeadRun.seenQ hQ hLs (importedModules RwH.prog.main.body) (fun s => xlAt hQ [] s && recOk RwH.toRowW.records s) s.abs)) = some (true, openGood hQ hLs) := by kernel_rfl
theorem run_b (w : World) (os : OsState) : (hEnd w os).map obH = some vlY := by kernel_rfl
theorem headRun (w : World) : HandSHeadRun.RunEq RwH hQ hY obH 12000 hLs w := by
  intro os
  have a := run_a w os
  have b := run_b w os
  show (hEnd w os).map _ = _
  generalize hEnd w os = o at a b
  cases o with
  | none => cases a
  | some s =>
    have a := Option.some.inj a
    have z : obH s = hY.val w := Option.some.inj b
    show some (_, _, obH s) = some (_, _, hY.val w)
    rw [z]
    exact congrArg (fun p => some (p.1, p.2, hY.val w)) a
end K7
/-! From the head's facts to the law. -/
namespace K7
open PySem PySem.Spec PyProof.Rows L2 LamX
/-- what the head says -/
structure HF (w : World) (K : PySem.W.Frag) (mg : Str → Option Value) (h : Heap) : Prop where
  X : K.In h
  G : h.Ns mainGlobals mg
  c : He.SaysX hFa hFn [] hTf hEx w h K
  z : pfs.map (fun p => fnA K (gtP K p.1)) = pfs.map vA
section
variable {w : World} {K : PySem.W.Frag} {mg : Str → Option Value} {h : Heap}
theorem HF.fa (F : HF w K mg h) {f : He.Fa} (m : f ∈ hFa) : f.ok K = true := F.c.t.d.facts m
theorem HF.gl1 (F : HF w K mg h) (i : Nat) {p : Str × Nat × List He.Dv} (e : dfs[i]? = some p) : mg p.1 = some (.ref (He.ga K p.1)) :=
  He.glo_ok F.X F.G (F.fa (List.mem_append_right _ (List.mem_append_left _ (List.mem_map.mpr ⟨p, List.mem_of_getElem? e, rfl⟩))))
theorem HF.gl2 (F : HF w K mg h) (i : Nat) {p : Str × Nat × List He.Dv} (e : lfs[i]? = some p) : mg p.1 = some (.ref (He.ga K p.1)) :=
  He.glo_ok F.X F.G (F.fa (List.mem_append_right _ (List.mem_append_right _ (List.mem_append_left _ (List.mem_map.mpr ⟨p, List.mem_of_getElem? e, rfl⟩)))))
theorem HF.free (F : HF w K mg h) (i : Nat) {x : Str} (e : hFr[i]? = some x) : mg x = none :=
  He.free_ok F.X F.G (F.fa (List.mem_append_right _ (List.mem_append_right _ (List.mem_append_right _ (List.mem_append_left _ (List.mem_map.mpr ⟨x, List.mem_of_getElem? e, rfl⟩))))))
theorem HF.no (F : HF w K mg h) (i : Nat) {x : Str} (e : hNo[i]? = some x) : NoAttr K (He.ga K "Machine") x :=
  He.noat_ok (F.fa (List.mem_append_right _ (List.mem_append_right _ (List.mem_append_right _ (List.mem_append_right _ (List.mem_append_left _ (List.mem_map.mpr ⟨x, List.mem_of_getElem? e, rfl⟩)))))))
theorem HF.me (F : HF w K mg h) (i : Nat) {x : Str} (e : hMe[i]? = some x) : Meth K (He.ga K "Machine") x (He.ma K (He.ga K "Machine") x) :=
  He.meth_ok (F.fa (List.mem_append_right _ (List.mem_append_right _ (List.mem_append_right _ (List.mem_append_right _ (List.mem_append_right _ (List.mem_map.mpr ⟨x, List.mem_of_getElem? e, rfl⟩)))))))
theorem HF.h5 (F : HF w K mg h) (i : Nat) {f : He.Fa} (e : ([.str "LOOK" "?", .int "TRIPLE" 3, .glo "Machine", .cls "Machine", .mkr "Machine"] : List He.Fa)[i]? = some f) : f.ok K = true :=
  F.fa (List.mem_append_left _ (List.mem_of_getElem? e))
theorem HF.d (F : HF w K mg h) (i : Nat) {x : Str} {n : Nat} {dv : List He.Dv} (e : dfs[i]? = some (x, n, dv)) : Gd K mg x (topS n) (dv.map (He.Dv.v K)) := by
  obtain ⟨fd, D⟩ := F.c.t.d.defs (d := dOf (x, n, dv)) (List.mem_append_left _ (List.mem_map.mpr ⟨_, List.mem_of_getElem? e, rfl⟩))
  exact ⟨He.ga K x, ⟨fd, D⟩, F.gl1 i e⟩
theorem HF.l0 (F : HF w K mg h) (i : Nat) {x : Str} {n : Nat} {dv : List He.Dv} (e : lfs[i]? = some (x, n, dv)) : Fd K x x (topS n) (dv.map (He.Dv.v K)) (He.ga K x) := by
  obtain ⟨fd, D⟩ := F.c.t.d.defs (d := dOf (x, n, dv)) (List.mem_append_right _ (List.mem_append_left _ (List.mem_map.mpr ⟨_, List.mem_of_getElem? e, rfl⟩)))
  exact ⟨fd, D⟩
theorem HF.l (F : HF w K mg h) (i : Nat) {x : Str} {n : Nat} {dv : List He.Dv} (e : lfs[i]? = some (x, n, dv)) : Gd K mg x (topS n) (dv.map (He.Dv.v K)) :=
  ⟨He.ga K x, F.l0 i e, F.gl2 i e⟩
theorem HF.m (F : HF w K mg h) (i : Nat) {x q : Str} {n : Nat} {dv : List He.Dv} (e : mfs[i]? = some (x, q, n, dv)) : Fd K x q (inClass cM n) (dv.map (He.Dv.v K)) (He.ma K (He.ga K "Machine") x) := by
  obtain ⟨fd, D⟩ := F.c.t.d.defs (d := dMe (x, q, n, dv)) (List.mem_append_right _ (List.mem_append_right _ (List.mem_map.mpr ⟨_, List.mem_of_getElem? e, rfl⟩)))
  exact ⟨fd, D⟩
theorem HF.ex (F : HF w K mg h) : PySem.W.fnIn K (He.ma K (He.ga K "Machine") "__getitem__") = true ∧ PySem.W.fnIn K (He.ma K (He.ga K "Machine") "__call__") = true ∧ ∀ p ∈ pfs, prB K p.1 = true ∧ okA K (gtP K p.1) p.2.1 = true := by
  obtain ⟨a, b⟩ := He.ba (show (PySem.W.fnIn K (He.ma K (He.ga K "Machine") "__getitem__") && (PySem.W.fnIn K (He.ma K (He.ga K "Machine") "__call__") && (pfs.all fun p => prB K p.1 && okA K (gtP K p.1) p.2.1))) = true from F.c.more)
  obtain ⟨b, d⟩ := He.ba b
  exact ⟨a, b, fun p hp => He.ba (List.all_eq_true.mp d p hp)⟩
theorem prB_ok {f : Str} (e : prB K f = true) : PropOf K (He.ga K "Machine") f (He.ma K (He.ga K "Machine") f) (gtP K f) := by
  unfold prB at e
  obtain ⟨a, e⟩ := He.ba e
  obtain ⟨b, e⟩ := He.ba e
  obtain ⟨c, e⟩ := He.ba e
  refine ⟨He.eqO_ok a, He.eqO_ok b, of_decide_eq_true c, ?_⟩
  unfold gtP
  generalize PySem.W.recIn K (He.ma K (He.ga K "Machine") f) "property" = r at e
  match r, e with
  | some (.ref g :: rest), _ => exact ⟨rest, rfl⟩
theorem fnA_ok {a : Addr} {n q : Str} {st : Stmt} (e : fnA K a = some (n, q, defArgs st, .stmts (defBody st), defScope st, mainGlobals, [], builtinsNs)) (c : okA K a q = true) : Fd K n q st [] a := by
  obtain ⟨kp, c⟩ := He.ba c
  unfold fnA at e
  generalize hr : K.lookup a = r at e c
  match r, e, c with
  | some ⟨oc, od, .func ⟨u1, u2, u3, u4, u5, u6, u7, u8, u9, u10, u11, u12, u13, u14, u15⟩, sl⟩, e, c =>
    have e' : (some (u1, u2, u3, u4, u5, u6, u7, u15) : He.FnW) = some (n, q, defArgs st, .stmts (defBody st), defScope st, mainGlobals, [], builtinsNs) := e
    simp only [Option.some.injEq, Prod.mk.injEq] at e'
    obtain ⟨rfl, rfl, rfl, rfl, rfl, rfl, rfl, rfl⟩ := e'
    obtain ⟨c1, c2⟩ := He.ba c
    obtain ⟨c2, c3⟩ := He.ba c2
    exact ⟨_, ⟨oc, od, u8, u9, u10, u11, u12, u13, u14, sl, rfl, hr, c1, He.dflB_ok c2, He.kwdB_ok c3⟩, kp⟩
theorem HF.pr (F : HF w K mg h) (i : Nat) {x q : Str} {n : Nat} (e : pfs[i]? = some (x, q, n)) : PropOf K (He.ga K "Machine") x (He.ma K (He.ga K "Machine") x) (gtP K x) ∧ Fd K x q (inClass cM n) [] (gtP K x) := by
  obtain ⟨a, b⟩ := F.ex.2.2 _ (List.mem_of_getElem? e)
  refine ⟨prB_ok a, fnA_ok ?_ b⟩
  have y := congrArg (fun l : List He.FnW => l[i]?) F.z
  simp only [List.getElem?_map, e] at y
  exact Option.some.inj y
theorem HF.bl (F : HF w K mg h) : Bl mg where
  look := He.str_ok F.X F.G (F.h5 0 rfl)
  triple := He.int_ok F.X F.G (F.h5 1 rfl)
  len := F.free 0 rfl
  range := F.free 1 rfl
  tuple := F.free 2 rfl
  list := F.free 3 rfl
  sorted := F.free 4 rfl
  set := F.free 5 rfl
  enum := F.free 6 rfl
  zip := F.free 7 rfl
  all := F.free 8 rfl
  min := F.free 9 rfl
  max := F.free 10 rfl
  int := F.free 11 rfl
  abs := F.free 12 rfl
  str := F.free 13 rfl
  isi := F.free 14 rfl
  dict := F.free 15 rfl
  bool := F.free 16 rfl
theorem HF.mcl (F : HF w K mg h) : Mcl K (He.ga K "Machine") where
  cl := He.cls_ok (F.h5 3 rfl)
  n1 := F.no 0 rfl
  n2 := F.no 1 rfl
  n3 := F.no 2 rfl
  n4 := F.no 3 rfl
  n5 := F.no 4 rfl
  n6 := F.no 5 rfl
theorem HF.mth (F : HF w K mg h) {P : Program} {base : Heap} : Mth P w K mg base (He.ga K "Machine") where
  T := F.mcl
  many := ⟨_, _, (F.pr 0 rfl).1, ok_many F.mcl (F.pr 0 rfl).2⟩
  names := ⟨_, _, (F.pr 1 rfl).1, ok_names F.mcl (F.pr 1 rfl).2⟩
  shows := ⟨_, _, (F.pr 2 rfl).1, ok_shows F.mcl (F.pr 2 rfl).2⟩
  mark := ⟨_, F.me 0 rfl, ok_mark F.mcl (F.m 4 rfl)⟩
  get := ⟨_, ⟨(F.me 1 rfl).at_, F.ex.1, (F.me 1 rfl).fn⟩, ok_get F.mcl (F.m 1 rfl)⟩
  has := ⟨_, ⟨(F.me 2 rfl).at_, (F.me 2 rfl).fn⟩, ok_has F.mcl F.bl (F.m 2 rfl)⟩
theorem HF.tw (F : HF w K mg h) : GdT K mg "twins" (topS 41) (He.cT K ("twins", none)).1 := by
  obtain ⟨f, ⟨fd, D⟩, g⟩ : Gd K mg "twins" (topS 41) [] := F.d 26 rfl
  obtain rfl : f = He.ga K "twins" := by
    have y := (F.gl1 26 rfl).symm.trans g
    injection y with y
    injection y with y
    exact y.symm
  obtain ⟨oc, od, dV, kV, doc, pm, an, cdv, ct, sl, e, lk, hcd, hd, hk⟩ := D.ex
  obtain ⟨c, rfl⟩ := He.codeIn_ref hcd
  rcases hd with ⟨_, rfl⟩ | ⟨y, _⟩
  · subst e
    have y : He.codeOf K ("twins", none) = c := He.codeOf_eq (p := ("twins", none)) lk rfl
    show GdT K mg "twins" (topS 41) (He.codeOf K ("twins", none))
    rw [y]
    exact ⟨_, oc, od, kV, doc, pm, an, ct, sl, lk, hcd, D.kp, g⟩
  · exact absurd rfl y
end
end K7
/-! From the head's facts to the law: the chain. -/
namespace K7
open PySem PySem.Spec PyProof.Rows L2 LamX
/-- the tables: that of twins -/
def hT (K : PySem.W.Frag) : List (Addr × Str) := [((He.cT K ("twins", none)).2, (("twins" : Str) ++ ".<locals>.") ++ "<lambda>")]
section
variable {w : World} {K : PySem.W.Frag} {mg : Str → Option Value} {h : Heap}
set_option maxHeartbeats 4000000 in
theorem HF.law (F : HF w K mg h) (P : Program) (base : Heap) {fd : FuncData} (D : FunD K "law" "law" (defArgs (topS 74)) (defBody (topS 74)) (defScope (topS 74)) [] [] (He.ga K "law") fd) (TB : TabB base mg (He.cT K ("twins", none)).1 (He.cT K ("twins", none)).2) : FnOk P w K mg base CX0 11 (He.ga K "law") fd ["_law_script"] (spLaw K (hT K)) := by
  have L := F.bl
  have T : Mth P w K mg base (He.ga K "Machine") := F.mth
  have gCkS := ok_ckS (P := P) (w := w) (base := base) T (F.d 5 rfl)
  have gCkd := ok_ckd (P := P) (w := w) (base := base) L T (F.d 6 rfl)
  have gWay := ok_way (P := P) (w := w) (base := base) L T (F.d 8 rfl)
  have gImg0 := ok_img (P := P) (w := w) (base := base) L T (F.d 9 rfl) gCkS gCkd gWay
  have gImg2 := img2 gImg0.2
  have gFst := ok_firsts (P := P) (w := w) (base := base) (F.d 1 rfl)
  have gBlk2 := ok_blocks (P := P) (w := w) (base := base) L (F.d 2 rfl) gFst
  have gMks := ok_marks (P := P) (w := w) (base := base) L (F.d 4 rfl) gFst
  have gMkd := ok_mkd (P := P) (w := w) (base := base) L T (F.d 10 rfl) gWay
  have gBeh := ok_beh (P := P) (w := w) (base := base) L T (F.d 11 rfl) gBlk2 gCkd gMkd
  have gOut := ok_out (P := P) (w := w) (base := base) L (F.d 12 rfl)
  have gCkD := ok_ckD (P := P) (w := w) (base := base) L (F.d 13 rfl)
  have gSts := ok_sts (P := P) (w := w) (base := base) L T (F.d 14 rfl) gCkS
  have gMay := ok_may (P := P) (w := w) (base := base) L T (F.d 15 rfl) gImg0.1 gMkd
  have gGrs0 := ok_grs (P := P) (w := w) (base := base) L T (F.d 16 rfl) gCkd gSts gMay
  have gGrs2 := grs2 gGrs0.2
  have gSty0 := ok_sty (P := P) (w := w) (base := base) L T (F.d 17 rfl) gCkd gSts gCkD gMkd gOut
  have gSty := sty3 gSty0.2
  have gCan0 := ok_can (P := P) (w := w) (base := base) L T (F.d 18 rfl) gCkd gSts gMkd gOut
  have gCan := can3 gCan0.2
  have gIsF := ok_isF (P := P) (w := w) (base := base) L (F.d 19 rfl) gGrs2
  have gFrm := ok_frm (P := P) (w := w) (base := base) L (F.d 20 rfl) gGrs2 gCkd gOut
  have gNum := ok_num (P := P) (w := w) (base := base) L (F.d 0 rfl)
  have gTop := ok_tops (P := P) (w := w) (base := base) L (F.d 3 rfl)
  have gTwP := ok_twP (P := P) (w := w) (base := base) L (F.d 21 rfl) gGrs2 gCan
  have gPrs := ok_prs (P := P) (w := w) (base := base) T (F.d 25 rfl)
  have gAre := ok_are (P := P) (w := w) (base := base) L T (F.d 24 rfl)
  have gIsT := ok_isT (P := P) (w := w) (base := base) L T (F.d 22 rfl) gNum gTwP
  have gBy := ok_by (P := P) (w := w) (base := base) L (F.d 7 rfl)
  have gGo := ok_go (P := P) (w := w) (base := base) L T (F.m 3 rfl) gCkS gCkd
  have hGo : ∃ g, StX.CallO K (He.ga K "Machine") g ∧ Fo P w K mg base 4 g (spGo K (He.ga K "Machine")) := ⟨_, ⟨(F.me 3 rfl).at_, (F.me 3 rfl).fn, F.ex.2.1⟩, gGo⟩
  have gTw := ok_tw (P := P) (w := w) (base := base) L.min L T (T := hT K) F.tw (F.d 23 rfl) gImg2 hGo gBeh gBy gTop gPrs gAre gTwP TB (List.mem_singleton.mpr rfl) (fun q hq _ => by rw [List.mem_singleton.mp hq])
  have gIni := ok_ini (P := P) (w := w) (base := base) L F.mcl (F.m 0 rfl) gMks gBlk2
  have gTake := ok_take (P := P) (w := w) (base := base) L (F.l 1 rfl)
  have gOf := ok_of (P := P) (w := w) (base := base) L gTake (F.l 3 rfl)
  have gMix := ok_mix (P := P) (w := w) (base := base) L gTake (F.l 5 rfl)
  have gNm := ok_nm (P := P) (w := w) (base := base) L gTake gOf (F.l 6 rfl)
  have gMv := ok_mv (P := P) (w := w) (base := base) L gTake gOf gMix (F.l 7 rfl)
  have gMc := ok_mc (P := P) (w := w) (base := base) L gTake gOf gNm gMv (F.l 8 rfl)
  have gLamp := ok_lamp (P := P) (w := w) (base := base) (F.l 9 rfl)
  have gCop := ok_cop (P := P) (w := w) (base := base) (F.l 11 rfl)
  have gLps := ok_lamps (P := P) (w := w) (base := base) (F.l 12 rfl)
  have gDi := ok_di (P := P) (w := w) (base := base) L (F.l 10 rfl)
  have gTg := ok_tg (P := P) (w := w) (base := base) L (F.l 15 rfl)
  have gKn := ok_kn (P := P) (w := w) (base := base) L gTake gOf gLamp gDi gCop gLps gTg (F.l 13 rfl)
  have gSm := ok_sm (P := P) (w := w) (base := base) L gTake gKn gMc (F.l 14 rfl)
  have gLg := ok_lg (P := P) (w := w) (base := base) L gTake gOf (F.l 21 rfl)
  have gSs := ok_ss (P := P) (w := w) (base := base) L gTake (F.l 24 rfl)
  have gBx := ok_bx (P := P) (w := w) (base := base) L (F.l 0 rfl)
  have gCl := ok_cl (P := P) (w := w) (base := base) L (F.l 2 rfl)
  have gHs := ok_hs (P := P) (w := w) (base := base) L (He.mkr_ok (F.h5 4 rfl)) gIni (He.glo_ok F.X F.G (F.h5 2 rfl)) (F.l 16 rfl)
  have gKd := ok_kd (P := P) (w := w) (base := base) L (F.l 17 rfl)
  have gLw := ok_lw (P := P) (w := w) (base := base) (F.l 18 rfl)
  have gLm := ok_lm (P := P) (w := w) (base := base) L gKd gLw (F.l 19 rfl)
  have gLe := ok_le (P := P) (w := w) (base := base) gLm (F.l 20 rfl)
  have gWo := ok_wo (P := P) (w := w) (base := base) L (F.l 25 rfl)
  have gTe := ok_te (P := P) (w := w) (base := base) gLm (F.l 26 rfl)
  have gSy := ok_sy (P := P) (w := w) (base := base) L gLe (F.l 23 rfl)
  have gGs := ok_gs (P := P) (w := w) (base := base) L gTe gWo (F.l 27 rfl)
  have gPt := ok_pt (P := P) (w := w) (base := base) L (F.l 22 rfl)
  have gLr := ok_lr (P := P) (w := w) (base := base) L gHs gFrm gGrs2 gIsF gSty gLe gPt gSy gGs gWo gTe (F.l 28 rfl)
  have gRt := ok_rt (P := P) (w := w) (base := base) ⟨L, gTake, gSm, gMc, gTg, gLg, gSs, gLr, gHs, gGrs2, gGrs0.1, gIsT, gCan⟩ (T := hT K) gTw (F.l 30 rfl)
  have gSa0 := ok_sa0 (P := P) (w := w) (base := base) L (F.l 4 rfl)
  have gSa1 := ok_sa1 (P := P) (w := w) (base := base) L gSa0 (F.l 4 rfl)
  have gSa2 := ok_sa2 (P := P) (w := w) (base := base) L gSa1 (F.l 4 rfl)
  have gBh := ok_bh (P := P) (w := w) (base := base) L gDi gLr gHs gFrm gGrs0.1 gSa2 (F.l 29 rfl)
  exact fn_law (T := hT K) L gBh gCl gBx gRt D
end
end K7
/-! The law holds. -/
namespace K7
open PySem PySem.Spec PyProof.Rows L2 LamX
section
variable {w : World} {K : PySem.W.Frag} {mg : Str → Option Value} {h : Heap}
theorem law_script {H : Hp} {a : Addr} {ns : List Int} (hS : SqL K H a (ns.map V.int)) : ∃ B : Hp, Same B H ∧ NoT B ∧ Dp K B (.ref a) (.list (ns.map eI)) := by
  rcases hS with hS | hS
  · refine ⟨fun b => if b = a then H a else none, fun b o e => ?_, fun b ps e => ?_, .lst (.inl ?_) (ints_dpa ns)⟩
    · have e : (if b = a then H a else none) = some o := e
      by_cases q : b = a
      · rw [if_pos q] at e
        rw [q]
        exact e
      · rw [if_neg q] at e
        cases e
    · have e : (if b = a then H a else none) = some (.tbl ps) := e
      by_cases q : b = a
      · rw [if_pos q] at e
        rcases hS with z | ⟨o, z⟩
        · rw [z] at e
          cases e
        · rw [z] at e
          cases e
      · rw [if_neg q] at e
        cases e
    · rcases hS with z | ⟨o, z⟩
      · exact .inl ((if_pos rfl).trans z)
      · exact .inr ⟨o, (if_pos rfl).trans z⟩
  · refine ⟨fun _ => none, ⟨fun b o e => ?_, fun b ps e => ?_, Dp.lst (.inr hS) (ints_dpa ns)⟩⟩
    · cases e
    · cases e
theorem HF.at_ (F : HF w K mg h) {fa : Addr} (hfa : mg ("law" : Str) = some (.ref fa)) : LawAtS PySem.Challenge.rw_leftlogs_k70_whole_one_by_one_is_right w K CX0 11 63 "_law_script" mg fa h := by
  obtain ⟨fd, D⟩ := F.l0 31 rfl
  have e := hfa.symm.trans (F.gl2 31 rfl)
  cases e
  have tf : (("twins", none) : He.Defn) ∈ hTf := List.mem_singleton.mpr rfl
  refine ⟨fd, [He.cT K ("twins", none)], spLaw K (hT K), fun p hp => ?_, fun p hp => ?_, fun p hp => ?_, fun s u => ?_, fun H a ns hl hb hH hS => ?_, fun base hK hG hTB => ?_⟩
  · rw [List.mem_singleton.mp hp]
    exact F.c.empty _ tf
  · rw [List.mem_singleton.mp hp]
    exact F.c.out _ tf
  · rw [List.mem_singleton.mp hp]
    exact PySem.W.codeHd_of_K F.X (F.c.hd _ tf)
  · exact FunD.bindsA (ps := ["_law_script"]) D (fun _ _ _ _ _ _ us hl => match us, hl with | [_], _ => rfl) s [u] rfl
  · obtain ⟨B, sb, nt, hd⟩ := law_script hS
    refine ⟨ns, B, .ref a, rfl, sb, nt, fun p hp => ?_, hd, hl, fun _ => rfl⟩
    rw [List.mem_singleton.mp hp]
    exact TabS.nil (hH _ (List.mem_singleton.mpr rfl))
  · exact F.law PySem.Challenge.rw_leftlogs_k70_whole_one_by_one_is_right.prog base D (hTB _ (List.mem_singleton.mpr rfl))
end
end K7
set_option maxHeartbeats 0
open PySem PySem.W PySem.Calls PyProof.Rows
theorem PySem.Challenge.cw_leftlogs_k70_whole_one_by_one_is_right_holds : PySem.Challenge.rw_leftlogs_k70_whole_one_by_one_is_right.Holds := by
  w_on; o_law
  refine HandSHeadRun.head_any (r := K7.RwH) (q := view K7.RwH.prog [74]) (H := K7.hY) (ob := K7.obH) (M := 12000) (loose := K7.hLs) (d := HandSHeadRun.topDef K7.RwH.prog 74) (kwd := []) K7.obH_eq
    (by kernel_rfl) (fun s => by kernel_rfl) K7.headRun (by kernel_rfl) (by kernel_rfl) (by kernel_rfl) (by rfl) (by first | assumption | decide +kernel) (by decide +kernel) ⟨rfl, rfl, rfl, rfl, rfl, by decide +kernel⟩ ?hw ?hc
  case hw => w_witness2
  case hc =>
    refine LamX.walk_ofTsE (l := PySem.Challenge.rw_leftlogs_k70_whole_one_by_one_is_right) (n := 63) (k := 11) (x := "_law_script") (CX := fun _ => L2.CX0) rfl (by decide) (by kernel_rfl) ⟨rfl, by decide, by decide⟩ ?F (fun _ _ _ _ _ z => z)
    intro w mg fa h Y G hmg0
    obtain ⟨K, KX, c, z⟩ := Y
    have hmg : mg ("law" : PySem.Str) = some (.ref fa) := by
      have e : (HandSHeadRun.topDef K7.RwH.prog 74).name = ("law" : PySem.Str) := by kernel_rfl
      rw [← e]
      exact hmg0
    exact ⟨K, KX, K7.HF.at_ ⟨KX, G, c, z⟩ hmg⟩
