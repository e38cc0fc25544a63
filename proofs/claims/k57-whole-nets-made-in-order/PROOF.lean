import PyProof.Rows.All
import Wide.All
import OpenK.AllK
import Wide.FinOn
import HandS.ForMost
import HandS.Codes
import HandS.Deep
import HandS.DeepEq
import HandS.Defaults
import HandS.Property
import HandS.Star
import HandS.MakeKwOnly
import HandS.IsInst
import HandS.NoneIn
import HandS.DictComp
import HandS.Flow
import HandS.Small
import HandS.CallRecv
import HandS.Conv
import HandS.Strs
import HandS.TupAny
import HandS.RaiseMore
import HandS.Walk
import KE.KOpsOwn
import HandS.Head0
import HandS.Head1
import HandS.Head2
import HandS.HeadEnd
import HandS.HeadHook1
import HandS.HeadHook2
import KE.KSuper
import PySem.Challenge.RW_firstmade_k57_whole_nets_made_in_order
import Lean
import HandS.ClsMeth
import HandS.TupMul
set_option Elab.async false
set_option linter.all false
set_option maxRecDepth 100000
set_option maxHeartbeats 4000000
/-! ZA: what stays (Le, Same), data that stays, judgements by the walk itself (WE, WT, WSs). -/
namespace K57
open PySem PySem.Spec PyProof.Rows L2

/-! ### what stays -/
def isD : HO → List (Key × V) → Prop
  | .dK k, kvs => k = kvs
  | .frz _ (.dK k), kvs => k = kvs
  | _, _ => False
/-- all stands, but that dicts may be locked or unlocked -/
def Le (H H' : Hp) : Prop := ∀ a o, H a = some o → H' a = some o ∨ ∃ kvs, isD o kvs ∧ Rd H' a (.dK kvs)
/-- all stands but what is at the places S -/
def SameX (S : List Addr) (H H' : Hp) : Prop := ∀ a o, a ∉ S → H a = some o → H' a = some o

theorem isD_inj {o : HO} {k1 k2 : List (Key × V)} (h1 : isD o k1) (h2 : isD o k2) : k1 = k2 := by
  unfold isD at h1 h2
  split at h1
  · exact h1.symm.trans h2
  · exact h1.symm.trans h2
  · exact h1.elim
theorem isD_of_rd {H : Hp} {a : Addr} {o : HO} {kvs : List (Key × V)} (h : H a = some o) (r : Rd H a (.dK kvs)) : isD o kvs := by
  rcases r with r | ⟨ob, r⟩
  · rw [h] at r
    cases r
    rfl
  · rw [h] at r
    cases r
    rfl
theorem Le.refl (H : Hp) : Le H H := fun _ _ h => .inl h
theorem Le.trans {H H1 H2 : Hp} (a : Le H H1) (b : Le H1 H2) : Le H H2 := fun x o h => by
  rcases a x o h with h1 | ⟨kvs, d, r⟩
  · exact b x o h1
  · refine .inr ⟨kvs, d, ?_⟩
    rcases r with r | ⟨ob, r⟩
    · rcases b x _ r with h2 | ⟨k2, d2, r2⟩
      · exact .inl h2
      · have e : kvs = k2 := d2
        rw [e]
        exact r2
    · rcases b x _ r with h2 | ⟨k2, d2, r2⟩
      · exact .inr ⟨ob, h2⟩
      · have e : kvs = k2 := d2
        rw [e]
        exact r2
theorem le_of {H H' : Hp} (e : Same H H') : Le H H' := fun a o h => .inl (e a o h)
theorem Le.new {H : Hp} {p : Addr} {o : HO} (h : H p = none) : Le H (upd H p o) := fun a u e => .inl (by
  rw [upd_ne (ne_of_none e h)]
  exact e)
theorem same_new {H : Hp} {p : Addr} {o : HO} (h : H p = none) : Same H (upd H p o) := fun a u e => by
  rw [upd_ne (ne_of_none e h)]
  exact e
/-- an object that H does not know may change -/
theorem Le.mut {H H' : Hp} {p : Addr} {o : HO} (e : Le H H') (h : H p = none) : Le H (upd H' p o) := fun a u ha => by
  have na : a ≠ p := ne_of_none ha h
  rcases e a u ha with h1 | ⟨kvs, d, r⟩
  · exact .inl (by rw [upd_ne na]; exact h1)
  · refine .inr ⟨kvs, d, ?_⟩
    rcases r with r | ⟨ob, r⟩
    · exact .inl (by rw [upd_ne na]; exact r)
    · exact .inr ⟨ob, by rw [upd_ne na]; exact r⟩
theorem same_mut {H H' : Hp} {p : Addr} {o : HO} (e : Same H H') (h : H p = none) : Same H (upd H' p o) := fun a u ha => by
  rw [upd_ne (ne_of_none ha h)]
  exact e a u ha
theorem Le.ins {H H' : Hp} {a C dx : Addr} {fs : List (Str × V)} (e : Le H H') (h : H a = some (.ins C dx fs)) : H' a = some (.ins C dx fs) := by
  rcases e a _ h with h1 | ⟨_, d, _⟩
  · exact h1
  · exact d.elim
theorem Le.lst {H H' : Hp} {a : Addr} {xs : List V} (e : Le H H') (h : H a = some (.lst xs)) : H' a = some (.lst xs) := by
  rcases e a _ h with h1 | ⟨_, d, _⟩
  · exact h1
  · exact d.elim
theorem Le.tup {H H' : Hp} {a : Addr} {xs : List V} (e : Le H H') (h : H a = some (.tup xs)) : H' a = some (.tup xs) := by
  rcases e a _ h with h1 | ⟨_, d, _⟩
  · exact h1
  · exact d.elim
theorem Le.dk {H H' : Hp} {a : Addr} {kvs : List (Key × V)} (e : Le H H') (h : Rd H a (.dK kvs)) : Rd H' a (.dK kvs) := by
  rcases h with h | ⟨ob, h⟩
  · rcases e a _ h with h1 | ⟨k, d, r⟩
    · exact .inl h1
    · have e2 : kvs = k := d
      rw [e2]
      exact r
  · rcases e a _ h with h1 | ⟨k, d, r⟩
    · exact .inr ⟨ob, h1⟩
    · have e2 : kvs = k := d
      rw [e2]
      exact r
theorem Le.sqL {K : PySem.W.Frag} {H H' : Hp} {a : Addr} {xs : List V} (e : Le H H') (h : SqL K H a xs) : SqL K H' a xs := by
  rcases h with (h | ⟨ob, h⟩) | h
  · exact .inl (.inl (e.lst h))
  · rcases e a _ h with h1 | ⟨_, d, _⟩
    · exact .inl (.inr ⟨ob, h1⟩)
    · exact d.elim
  · exact .inr h
theorem Le.sqT {K : PySem.W.Frag} {H H' : Hp} {a : Addr} {xs : List V} (e : Le H H') (h : SqT K H a xs) : SqT K H' a xs := by
  rcases h with (h | ⟨ob, h⟩) | h
  · exact .inl (.inl (e.tup h))
  · rcases e a _ h with h1 | ⟨_, d, _⟩
    · exact .inl (.inr ⟨ob, h1⟩)
    · exact d.elim
  · exact .inr h
mutual
theorem Le.dp {K : PySem.W.Frag} {H H' : Hp} (e : Le H H') : ∀ {d : PyData} {v : V}, Dp K H v d → Dp K H' v d
  | .none, _, .non => .non
  | .bool _, _, .bl b => .bl b
  | .int _, _, .int i => .int i
  | .str _, _, .str x => .str x
  | .list _, _, .lst h a => .lst (e.sqL h) (Le.dpAll e a)
  | .tuple _, _, .tup h a => .tup (e.sqT h) (Le.dpAll e a)
theorem Le.dpAll {K : PySem.W.Frag} {H H' : Hp} (e : Le H H') : ∀ {ds : List PyData} {vs : List V}, DpAll K H vs ds → DpAll K H' vs ds
  | [], _, .nil => .nil
  | _ :: _, _, .cons h t => .cons (Le.dp e h) (Le.dpAll e t)
end
/-- locking -/
theorem Le.lock {H : Hp} {d : Addr} {kvs : List (Key × V)} {ob : Obj} (h : Rd H d (.dK kvs)) : Le H (upd H d (.frz ob (.dK kvs))) := fun a o ha => by
  by_cases q : a = d
  · subst q
    exact .inr ⟨kvs, isD_of_rd ha h, .inr ⟨ob, upd_same⟩⟩
  · exact .inl (by rw [upd_ne q]; exact ha)
theorem Le.unlock {H : Hp} {d : Addr} {kvs : List (Key × V)} (h : Rd H d (.dK kvs)) : Le H (upd H d (.dK kvs)) := fun a o ha => by
  by_cases q : a = d
  · subst q
    exact .inr ⟨kvs, isD_of_rd ha h, .inl upd_same⟩
  · exact .inl (by rw [upd_ne q]; exact ha)
/-! ### data -/
theorem dpa_len {K : PySem.W.Frag} {H : Hp} : ∀ {vs : List V} {ds : List PyData}, DpAll K H vs ds → vs.length = ds.length
  | _, _, .nil => rfl
  | _, _, .cons _ t => congrArg Nat.succ (dpa_len t)
theorem dpa_get {K : PySem.W.Frag} {H : Hp} : ∀ {vs : List V} {ds : List PyData} {i : Nat} {v : V}, DpAll K H vs ds → vs[i]? = some v → ∃ d, ds[i]? = some d ∧ Dp K H v d
  | _, _, _, _, .nil, h => by simp at h
  | _, _, 0, _, .cons a _, h => by
    simp at h
    subst h
    exact ⟨_, rfl, a⟩
  | _, _, i + 1, _, .cons _ t, h => by
    obtain ⟨d, e, p⟩ := dpa_get (i := i) t (by simpa using h)
    exact ⟨d, by simpa using e, p⟩
theorem dpa_getD {K : PySem.W.Frag} {H : Hp} : ∀ {vs : List V} {ds : List PyData} {i : Nat} {d : PyData}, DpAll K H vs ds → ds[i]? = some d → ∃ v, vs[i]? = some v ∧ Dp K H v d
  | _, _, _, _, .nil, h => by simp at h
  | _, _, 0, _, .cons a _, h => by
    simp at h
    subst h
    exact ⟨_, rfl, a⟩
  | _, _, i + 1, _, .cons _ t, h => by
    obtain ⟨d, e, p⟩ := dpa_getD (i := i) t (by simpa using h)
    exact ⟨d, by simpa using e, p⟩
theorem dpa_append {K : PySem.W.Frag} {H : Hp} : ∀ {vs ws : List V} {ds es : List PyData}, DpAll K H vs ds → DpAll K H ws es → DpAll K H (vs ++ ws) (ds ++ es)
  | _, _, _, _, .nil, b => b
  | _, _, _, _, .cons a t, b => .cons a (dpa_append t b)
theorem dpa_snoc {K : PySem.W.Frag} {H : Hp} {vs : List V} {v : V} {ds : List PyData} {d : PyData} (a : DpAll K H vs ds) (b : Dp K H v d) : DpAll K H (vs ++ [v]) (ds ++ [d]) := dpa_append a (.cons b .nil)
theorem dpa_take {K : PySem.W.Frag} {H : Hp} : ∀ {vs : List V} {ds : List PyData} (n : Nat), DpAll K H vs ds → DpAll K H (vs.take n) (ds.take n)
  | _, _, 0, _ => .nil
  | _, _, _ + 1, .nil => .nil
  | _, _, n + 1, .cons a t => .cons a (dpa_take n t)
theorem dpa_drop {K : PySem.W.Frag} {H : Hp} : ∀ {vs : List V} {ds : List PyData} (n : Nat), DpAll K H vs ds → DpAll K H (vs.drop n) (ds.drop n)
  | _, _, 0, h => h
  | _, _, _ + 1, .nil => .nil
  | _, _, n + 1, .cons _ t => dpa_drop n t
theorem dpa_set {K : PySem.W.Frag} {H : Hp} {v : V} {d : PyData} (p : Dp K H v d) : ∀ {vs : List V} {ds : List PyData} (n : Nat), DpAll K H vs ds → DpAll K H (vs.set n v) (ds.set n d)
  | _, _, _, .nil => .nil
  | _, _, 0, .cons _ t => .cons p t
  | _, _, n + 1, .cons a t => .cons a (dpa_set p n t)
theorem dpa_strs {K : PySem.W.Frag} {H : Hp} : ∀ (ss : List Str), DpAll K H (ss.map V.str) (ss.map PyData.str)
  | [] => .nil
  | s :: r => .cons (.str s) (dpa_strs r)
theorem dp_int {K : PySem.W.Frag} {H : Hp} {v : V} {i : Int} (h : Dp K H v (.int i)) : v = .int i := by cases h; rfl
theorem dp_str {K : PySem.W.Frag} {H : Hp} {v : V} {i : Str} (h : Dp K H v (.str i)) : v = .str i := by cases h; rfl
theorem dp_non {K : PySem.W.Frag} {H : Hp} {v : V} (h : Dp K H v .none) : v = .non := by cases h; rfl
theorem dp_bl {K : PySem.W.Frag} {H : Hp} {v : V} {b : Bool} (h : Dp K H v (.bool b)) : v = .bl b := by cases h; rfl
theorem dpa_strs_inv {K : PySem.W.Frag} {H : Hp} : ∀ {ss : List Str} {vs : List V}, DpAll K H vs (ss.map PyData.str) → vs = ss.map V.str
  | [], _, h => by cases h; rfl
  | s :: r, _, h => by
    cases h with
    | cons a t =>
      rw [List.map_cons, dp_str a, dpa_strs_inv t]
theorem dp_list {K : PySem.W.Frag} {H : Hp} {v : V} {ds : List PyData} (h : Dp K H v (.list ds)) : ∃ a xs, v = .ref a ∧ SqL K H a xs ∧ DpAll K H xs ds := by
  cases h with
  | lst s a => exact ⟨_, _, rfl, s, a⟩
theorem dp_tuple {K : PySem.W.Frag} {H : Hp} {v : V} {ds : List PyData} (h : Dp K H v (.tuple ds)) : ∃ a xs, v = .ref a ∧ SqT K H a xs ∧ DpAll K H xs ds := by
  cases h with
  | tup s a => exact ⟨_, _, rfl, s, a⟩

/-! ### what is known of a value: it stays -/
structure Pd where
  p : V → Hp → Prop
  st : ∀ {v : V} {H H' : Hp}, Le H H' → p v H → p v H'
def Pd.v (v : V) : Pd := ⟨fun x _ => x = v, fun _ h => h⟩
def Pd.d (K : PySem.W.Frag) (d : PyData) : Pd := ⟨fun x H => Dp K H x d, fun e h => e.dp h⟩
/-- a list of them -/
def Holds : List Pd → List V → Hp → Prop
  | [], [], _ => True
  | P :: Ps, v :: vs, H => P.p v H ∧ Holds Ps vs H
  | _, _, _ => False
theorem Holds.le {H H' : Hp} (e : Le H H') : ∀ {Ps : List Pd} {vs : List V}, Holds Ps vs H → Holds Ps vs H'
  | [], [], _ => trivial
  | P :: Ps, v :: vs, h => ⟨P.st e h.1, Holds.le e h.2⟩
  | [], _ :: _, h => h.elim
  | _ :: _, [], h => h.elim
theorem holds1 {P : Pd} {vs : List V} {H : Hp} (h : Holds [P] vs H) : ∃ v, vs = [v] ∧ P.p v H := by
  cases vs with
  | nil => exact h.elim
  | cons v r =>
    cases r with
    | nil => exact ⟨v, rfl, h.1⟩
    | cons _ _ => exact h.2.elim
theorem holds2 {P1 P2 : Pd} {vs : List V} {H : Hp} (h : Holds [P1, P2] vs H) : ∃ v1 v2, vs = [v1, v2] ∧ P1.p v1 H ∧ P2.p v2 H := by
  cases vs with
  | nil => exact h.elim
  | cons v r =>
    obtain ⟨v2, e, h2⟩ := holds1 h.2
    exact ⟨v, v2, by rw [e], h.1, h2⟩
theorem holds3 {P1 P2 P3 : Pd} {vs : List V} {H : Hp} (h : Holds [P1, P2, P3] vs H) : ∃ v1 v2 v3, vs = [v1, v2, v3] ∧ P1.p v1 H ∧ P2.p v2 H ∧ P3.p v3 H := by
  cases vs with
  | nil => exact h.elim
  | cons v r =>
    obtain ⟨v2, v3, e, h2, h3⟩ := holds2 h.2
    exact ⟨v, v2, v3, by rw [e], h.1, h2, h3⟩

/-! ### a step: H goes on to H', what is known (Hb, below H) to Hb'; what H has and Hb does not know, Hb' does not know either -/
structure Stp (Hb H Hb' H' : Hp) : Prop where
  same : Same H H'
  up : Le Hb Hb'
  lo : Le Hb' H'
  non : ∀ a, Hb a = none → H a ≠ none → Hb' a = none
theorem Stp.refl {Hb H : Hp} (l : Le Hb H) : Stp Hb H Hb H := ⟨Same.refl H, Le.refl Hb, l, fun _ h _ => h⟩
theorem same_some {H H' : Hp} (s : Same H H') {a : Addr} (h : H a ≠ none) : H' a ≠ none := fun e => h (s.free e)
theorem Stp.trans {B H B1 H1 B2 H2 : Hp} (a : Stp B H B1 H1) (b : Stp B1 H1 B2 H2) : Stp B H B2 H2 :=
  ⟨a.same.trans b.same, a.up.trans b.up, b.lo, fun x hb hh => b.non x (a.non x hb hh) (same_some a.same hh)⟩
/-- the base stays as it was -/
theorem Stp.keep {B H H' : Hp} (l : Le B H) (s : Same H H') : Stp B H B H' := ⟨s, Le.refl B, l.trans (le_of s), fun _ h _ => h⟩
/-- from a lower base -/
theorem Stp.low {B0 B H B1 H1 : Hp} (l : Le B0 B) (hn : ∀ a, B0 a = none → H a ≠ none → B a = none) (a : Stp B H B1 H1) : Stp B0 H B1 H1 :=
  ⟨a.same, l.trans a.up, a.lo, fun x h0 hh => a.non x (hn x h0 hh) hh⟩
theorem le_none {H H' : Hp} (l : Le H H') {a : Addr} (h : H' a = none) : H a = none := by
  cases e : H a with
  | none => rfl
  | some o =>
    rcases l a o e with h1 | ⟨_, _, h1 | ⟨_, h1⟩⟩
    · rw [h] at h1
      cases h1
    · rw [h] at h1
      cases h1
    · rw [h] at h1
      cases h1
theorem Le.upd {H H' : Hp} (l : Le H H') (p : Addr) (o : HO) : Le (upd H p o) (upd H' p o) := fun a u h => by
  by_cases q : a = p
  · subst q
    rw [upd_same] at h
    cases h
    exact .inl upd_same
  · rw [upd_ne q] at h
    rcases l a u h with h1 | ⟨kvs, d, r⟩
    · exact .inl (by rw [upd_ne q]; exact h1)
    · refine .inr ⟨kvs, d, ?_⟩
      rcases r with r | ⟨ob, r⟩
      · exact .inl (by rw [upd_ne q]; exact r)
      · exact .inr ⟨ob, by rw [upd_ne q]; exact r⟩
/-- a new object -/
theorem Stp.new {B H : Hp} {p : Addr} {o : HO} (l : Le B H) (hp : H p = none) : Stp B H (upd B p o) (upd H p o) :=
  ⟨same_new hp, Le.new (le_none l hp), l.upd p o, fun a hb hh => by
    rw [upd_ne (fun q => hh (by rw [q]; exact hp))]
    exact hb⟩
/-- a new object that is not told of -/
theorem Stp.skip {B H : Hp} {p : Addr} {o : HO} (l : Le B H) (hp : H p = none) : Stp B H B (upd H p o) := .keep l (same_new hp)

/-- all of H' but what H1 has and B does not know -/
noncomputable def msk (B H1 H2 : Hp) : Hp := fun a => if B a = none ∧ H1 a ≠ none then none else H2 a
theorem le_msk {B H1 H2 : Hp} : Le (msk B H1 H2) H2 := fun a o h => by
  unfold msk at h
  split at h
  · cases h
  · exact .inl h
theorem Stp.lift {H H' H1 B H2 : Hp} (l : Le H H') (l1 : Le H' H1) (s : Stp H H1 B H2) : ∃ B', Stp H' H1 B' H2 ∧ Le B B' := by
  have sub : ∀ {C : Hp}, Le C H2 → (∀ a, H' a = none → H1 a ≠ none → C a = none) → Le C (msk H' H1 H2) := fun {C} lc hn a o h => by
    have un : ¬ (H' a = none ∧ H1 a ≠ none) := fun q => by
      rw [hn a q.1 q.2] at h
      cases h
    have e : msk H' H1 H2 a = H2 a := if_neg un
    rcases lc a o h with h1 | ⟨kvs, d, r⟩
    · exact .inl (e.trans h1)
    · refine .inr ⟨kvs, d, ?_⟩
      rcases r with r | ⟨ob, r⟩
      · exact .inl (e.trans r)
      · exact .inr ⟨ob, e.trans r⟩
  refine ⟨msk H' H1 H2, ⟨s.same, sub (l1.trans (le_of s.same)) fun a h _ => h, le_msk, fun a h0 h1 => if_pos ⟨h0, h1⟩⟩, sub s.lo fun a h0 h1 => s.non a (le_none l h0) h1⟩

/-! ### judgements by the walk itself -/
structure WE (X : Cx) (e : Expr) (σ : L2.St) (H : Hp) (Q : VK) : Prop where
  run : ∀ (pins : List (Addr × Obj)) (s : Shared), Inv X pins σ H s → wpAny (model X.prog X.w) X.A (eval e X.env) (EP X pins σ Q) X.xe s
structure WT (X : Cx) (e : Expr) (σ : L2.St) (H : Hp) (Q : Bool → Hp → Prop) : Prop where
  run : ∀ (pins : List (Addr × Obj)) (s : Shared), Inv X pins σ H s → wpAny (model X.prog X.w) X.A (isTrue e X.env (eval e X.env)) (TP X pins σ Q) X.xe s
structure WSs (X : Cx) (st : List Stmt) (D : Ends) (σ : L2.St) (H : Hp) : Prop where
  run : ∀ (pins : List (Addr × Obj)) (s : Shared), Inv X pins σ H s → wpAny (model X.prog X.w) X.A (execs st X.env) (SP X pins D) X.xe s
section
variable {X : Cx} {e c : Expr} {st : List Stmt} {σ : L2.St} {H : Hp}
theorem pe_w : PE X e (WE X e) := ⟨fun pins s _ _ _ I h => h.run pins s I⟩
theorem pt_w : PT X e (WT X e) := ⟨fun pins s _ _ _ I h => h.run pins s I⟩
theorem pss_w : PSs X st (WSs X st) := ⟨fun pins s _ _ _ I h => h.run pins s I⟩
theorem WE.of {t : TE} {Q : VK} (h : PE X e t) (q : t σ H Q) : WE X e σ H Q := ⟨fun pins s I => h.run pins s σ H Q I q⟩
theorem WT.of {t : TT} {Q : Bool → Hp → Prop} (h : PT X e t) (q : t σ H Q) : WT X e σ H Q := ⟨fun pins s I => h.run pins s σ H Q I q⟩
theorem WSs.of {t : TS} {D : Ends} (h : PSs X st t) (q : t D σ H) : WSs X st D σ H := ⟨fun pins s I => h.run pins s σ H D I q⟩
theorem WE.mono {Q Q' : VK} (h : WE X e σ H Q) (k : ∀ v H', Q v H' → Q' v H') : WE X e σ H Q' := ⟨fun pins s I => thn (h.run pins s I) fun u s' ⟨v, H', I', r, q⟩ => ⟨v, H', I', r, k v H' q⟩⟩
theorem WT.mono {Q Q' : Bool → Hp → Prop} (h : WT X e σ H Q) (k : ∀ v H', Q v H' → Q' v H') : WT X e σ H Q' := ⟨fun pins s I => thn (h.run pins s I) fun u s' ⟨H', I', q⟩ => ⟨H', I', k u H' q⟩⟩
end
end K57

set_option Elab.async false
set_option linter.all false
set_option maxRecDepth 100000
set_option maxHeartbeats 4000000
/-! ZB: expressions that leave all as it was, by what their values are. -/
namespace K57
open PySem PySem.Spec PyProof.Rows L2

def EvP (X : Cx) (e : Expr) (σ : L2.St) (H : Hp) (P : Pd) : Prop := ∀ H1, Le H H1 → WE X e σ H1 (fun v H2 => ∃ B, Stp H H1 B H2 ∧ P.p v B)
abbrev Ev (X : Cx) (e : Expr) (σ : L2.St) (H : Hp) (v : V) : Prop := EvP X e σ H (Pd.v v)
abbrev EvD (X : Cx) (e : Expr) (σ : L2.St) (H : Hp) (d : PyData) : Prop := EvP X e σ H (Pd.d X.K d)
def EvT (X : Cx) (e : Expr) (σ : L2.St) (H : Hp) (b : Bool) : Prop := ∀ H1, Le H H1 → WT X e σ H1 (fun b' H2 => b' = b ∧ Same H1 H2)
/-- a test, whatever its whole is -/
structure WW (X : Cx) (e : Expr) (σ : L2.St) (H : Hp) (Q : Bool → Hp → Prop) : Prop where
  run : ∀ (whole : Sem Value) (pins : List (Addr × Obj)) (s : Shared), Inv X pins σ H s → wpAny (model X.prog X.w) X.A (isTrue e X.env whole) (TP X pins σ Q) X.xe s
theorem pw_w {X : Cx} {e : Expr} : PW X e (WW X e) := ⟨fun whole pins s _ _ _ I h => h.run whole pins s I⟩
theorem WW.of {X : Cx} {e : Expr} {σ : L2.St} {H : Hp} {t : TT} {Q : Bool → Hp → Prop} (h : PW X e t) (q : t σ H Q) : WW X e σ H Q := ⟨fun whole pins s I => h.run whole pins s σ H Q I q⟩
def EvW (X : Cx) (e : Expr) (σ : L2.St) (H : Hp) (b : Bool) : Prop := ∀ H1, Le H H1 → WW X e σ H1 (fun b' H2 => b' = b ∧ Same H1 H2)
/-- arguments -/
def EvA (X : Cx) (es : List Expr) (σ : L2.St) (H : Hp) (Ps : List Pd) : Prop := ∃ t : TA, PA X es t ∧ ∀ H1, Le H H1 → ∀ Q : List V → Hp → Prop, (∀ vs B H2, Stp H H1 B H2 → Holds Ps vs B → Q vs H2) → t σ H1 Q

def scV : PyData → Option V
  | .none => some .non
  | .bool b => some (.bl b)
  | .int i => some (.int i)
  | .str s => some (.str s)
  | _ => none
theorem dp_sc {K : PySem.W.Frag} {H : Hp} {v w : V} {d : PyData} (h : Dp K H v d) (e : scV d = some w) : v = w := by
  cases h <;> first | exact Option.some.inj e | cases e

section
variable {X : Cx} {e a b c : Expr} {σ : L2.St} {H H' : Hp} {P P1 P2 : Pd} {v w x y : V} {d d1 d2 : PyData} {pos : Pos}

theorem EvP.le (h : EvP X e σ H P) (l : Le H H') : EvP X e σ H' P := fun H1 l1 => (h H1 (l.trans l1)).mono fun v H2 ⟨B, s, p⟩ => by
  obtain ⟨B', s', l'⟩ := s.lift l l1
  exact ⟨B', s', P.st l' p⟩
theorem EvT.le {k : Bool} (h : EvT X e σ H k) (l : Le H H') : EvT X e σ H' k := fun H1 l1 => h H1 (l.trans l1)
theorem EvP.imp (h : EvP X e σ H P1) (k : ∀ v H', Le H H' → P1.p v H' → P2.p v H') : EvP X e σ H P2 := fun H1 l => (h H1 l).mono fun v H2 ⟨B, s, p⟩ => ⟨B, s, k v B s.up p⟩
theorem ev_d (h : Ev X e σ H v) (hd : Dp X.K H v d) : EvD X e σ H d := h.imp fun u H' l (q : u = v) => by
  rw [q]
  exact l.dp hd
theorem ev_sc (h : EvD X e σ H d) (hs : scV d = some v) : Ev X e σ H v := h.imp fun u H' _ q => dp_sc q hs
theorem ev_eq (h : Ev X e σ H v) (q : v = w) : Ev X e σ H w := q ▸ h
theorem ed_eq (h : EvD X e σ H d) (q : d = d1) : EvD X e σ H d1 := q ▸ h
theorem et_to {k k' : Bool} (h : EvT X e σ H k) (q : k = k') : EvT X e σ H k' := q ▸ h
/-- by a rule of the layer -/
theorem EvP.of {t : TE} (h : PE X e t) (q : ∀ H1, Le H H1 → t σ H1 (fun v H2 => ∃ B, Stp H H1 B H2 ∧ P.p v B)) : EvP X e σ H P := fun H1 l => .of h (q H1 l)
theorem EvT.of {t : TT} {k : Bool} (h : PT X e t) (q : ∀ H1, Le H H1 → t σ H1 (fun b' H2 => b' = k ∧ Same H1 H2)) : EvT X e σ H k := fun H1 l => .of h (q H1 l)

/-! ### names, constants -/
theorem ev_name {i : Nat} {n : Str} (hσ : σ[i]? = some (some v)) (hN : X.N[i]? = some n := by rfl) (hv : Vis X.env.scope n := by first | exact Or.inl rfl | exact Or.inr (Or.inl rfl) | exact Or.inr (Or.inr rfl))
    (hd : (n == ("__debug__" : Str)) = false := by decide) (hcd : (n == ("__classdict__" : Str)) = false := by decide) : Ev X (.Name n pos) σ H v :=
  .of (pe_var hN hv hd hcd) fun H1 l => ⟨v, hσ, H, .refl l, rfl⟩
theorem ev_c {u : V} (h : PE X e (tC u)) : Ev X e σ H u := .of h fun H1 l => ⟨H, .refl l, rfl⟩
theorem ev_int {i : Int} {j} : Ev X (.Constant (.int i) j pos) σ H (.int i) := ev_c pe_int
theorem ev_bool {i : Bool} {j} : Ev X (.Constant (.bool i) j pos) σ H (.bl i) := ev_c pe_bl
theorem ev_none {j} : Ev X (.Constant .none j pos) σ H .non := ev_c pe_non
theorem ev_str {i : Str} {j} : Ev X (.Constant (.str i) j pos) σ H (.str i) := ev_c pe_str
theorem ev_glob {n : Str} {u : Value} (hg : Gl X n) (hm : X.mg n = some u) (r : RelV v u) (hd : (n == ("__debug__" : Str)) = false := by decide) : Ev X (.Name n pos) σ H v := ev_c (pe_glob hg hm r hd)
theorem ev_bltn {n : Str} {u : Value} (hg : Gl X n) (hm : X.mg n = none) (hv : bootBuiltins n = some u) (r : RelV v u) (hn : n ≠ "__name__" := by decide) (hd : (n == ("__debug__" : Str)) = false := by decide) : Ev X (.Name n pos) σ H v := ev_c (pe_bltn hg hm hv r hn hd)

/-! ### a field -/
theorem ev_fld {p C dx : Addr} {fs : List (Str × V)} {f : Str} (he : Ev X e σ H (.ref p)) (hp : H p = some (.ins C dx fs)) (c : Cls X.K C) (n : NoAttr X.K C f) (l : fs.lookup f = some v)
    (hb : attributeBase e f X.env (eval e X.env) = eval e X.env := by rfl) : Ev X (.Attribute e f pos) σ H v :=
  .of (pe_fld pe_w hb) fun H1 l1 => (he H1 l1).mono fun u H2 ⟨B, s, (q : u = .ref p)⟩ => ⟨p, C, dx, fs, v, q, s.same _ _ (l1.ins hp), c, n, l, B, s, rfl⟩

/-! ### operators -/
theorem ev_cmp {op : CmpOp} {r : R2} (ho : OpR X (compareOp op) r) (ha : EvP X a σ H P1) (hb : EvP X b σ H P2) (hr : ∀ v1 v2 B H', Le H B → Le B H' → P1.p v1 B → P2.p v2 B → ∀ Q : VK, (∀ v B2 H2, Stp B H' B2 H2 → P.p v B2 → Q v H2) → r v1 v2 H' Q)
    (hm : behindInMarks op b = false := by first | exact nomark _ | rfl) : EvP X (.Compare a [op] [b] pos) σ H P :=
  .of (pe_cmpR ho pe_w pe_w hm) fun H1 l1 => (ha H1 l1).mono fun v1 H2 ⟨B1, s1, p1⟩ => ((hb.le s1.up) H2 s1.lo).mono fun v2 H3 ⟨B2, s2, p2⟩ =>
    hr v1 v2 B2 H3 (s1.up.trans s2.up) s2.lo (P1.st s2.up p1) p2 _ fun v B4 H4 s3 p => ⟨B4, (s1.trans s2).trans s3, p⟩
theorem ev_bin {op : Operator} {r : R2} (ho : OpR X (binaryOp op) r) (ha : EvP X a σ H P1) (hb : EvP X b σ H P2) (hr : ∀ v1 v2 B H', Le H B → Le B H' → P1.p v1 B → P2.p v2 B → ∀ Q : VK, (∀ v B2 H2, Stp B H' B2 H2 → P.p v B2 → Q v H2) → r v1 v2 H' Q) :
    EvP X (.BinOp a op b pos) σ H P :=
  .of (pe_op ho pe_w pe_w) fun H1 l1 => (ha H1 l1).mono fun v1 H2 ⟨B1, s1, p1⟩ => ((hb.le s1.up) H2 s1.lo).mono fun v2 H3 ⟨B2, s2, p2⟩ =>
    hr v1 v2 B2 H3 (s1.up.trans s2.up) s2.lo (P1.st s2.up p1) p2 _ fun v B4 H4 s3 p => ⟨B4, (s1.trans s2).trans s3, p⟩
theorem ev_add {i j : Int} (ha : Ev X a σ H (.int i)) (hb : Ev X b σ H (.int j)) : Ev X (.BinOp a .Add b pos) σ H (.int (i + j)) :=
  ev_bin op_add ha hb fun v1 v2 B H' _ l h1 h2 Q q => ⟨i, j, h1, h2, q _ _ _ (.refl l) rfl⟩
theorem ev_sub {i j : Int} (ha : Ev X a σ H (.int i)) (hb : Ev X b σ H (.int j)) : Ev X (.BinOp a .Sub b pos) σ H (.int (i - j)) :=
  ev_bin op_sub ha hb fun v1 v2 B H' _ l h1 h2 Q q => ⟨i, j, h1, h2, q _ _ _ (.refl l) rfl⟩
theorem ev_mul {i j : Int} (ha : Ev X a σ H (.int i)) (hb : Ev X b σ H (.int j)) (hc : CMul i j) : Ev X (.BinOp a .Mult b pos) σ H (.int (i * j)) :=
  ev_bin op_mul ha hb fun v1 v2 B H' _ l h1 h2 Q q => ⟨i, j, h1, h2, hc, q _ _ _ (.refl l) rfl⟩
theorem ev_mod {i j : Int} (ha : Ev X a σ H (.int i)) (hb : Ev X b σ H (.int j)) (hc : 0 < j) : Ev X (.BinOp a .Mod b pos) σ H (.int (i % j)) :=
  ev_bin op_mod ha hb fun v1 v2 B H' _ l h1 h2 Q q => ⟨i, j, h1, h2, hc, q _ _ _ (.refl l) rfl⟩
theorem ev_fdiv {i j : Int} (ha : Ev X a σ H (.int i)) (hb : Ev X b σ H (.int j)) (hc : CDiv i j) : Ev X (.BinOp a .FloorDiv b pos) σ H (.int (i / j)) :=
  ev_bin op_fdiv ha hb fun v1 v2 B H' _ l h1 h2 Q q => ⟨i, j, h1, h2, hc, q _ _ _ (.refl l) rfl⟩
theorem ev_is {k : Bool} (ha : Ev X a σ H v) {j} {p2 : Pos} (hk : decide (v = .non) = k) : Ev X (.Compare a [.Is] [.Constant .none j p2] pos) σ H (.bl k) :=
  ev_cmp op_isN ha ev_none fun v1 v2 B H' _ l h1 h2 Q q => ⟨h2, q _ _ _ (.refl l) (by
    have e1 : v1 = v := h1
    show V.bl (decide (v1 = .non)) = V.bl k
    rw [e1, hk])⟩
theorem ev_isnt {k : Bool} (ha : Ev X a σ H v) {j} {p2 : Pos} (hk : (!decide (v = .non)) = k) : Ev X (.Compare a [.IsNot] [.Constant .none j p2] pos) σ H (.bl k) :=
  ev_cmp op_notN ha ev_none fun v1 v2 B H' _ l h1 h2 Q q => ⟨h2, q _ _ _ (.refl l) (by
    have e1 : v1 = v := h1
    show V.bl (!decide (v1 = .non)) = V.bl k
    rw [e1, hk])⟩
theorem ev_eqs {k : Bool} (ha : Ev X a σ H x) (hb : Ev X b σ H y) (hs : scal x y = true) (hk : decide (x = y) = k) : Ev X (.Compare a [.Eq] [b] pos) σ H (.bl k) :=
  ev_cmp op_eq ha hb fun v1 v2 B H' _ l (h1 : v1 = x) (h2 : v2 = y) Q q => by
    subst h1 h2
    exact ⟨hs, q _ _ _ (.refl l) (by show V.bl _ = V.bl k; rw [hk])⟩
theorem ev_nes {k : Bool} (ha : Ev X a σ H x) (hb : Ev X b σ H y) (hs : scal x y = true) (hk : (!decide (x = y)) = k) : Ev X (.Compare a [.NotEq] [b] pos) σ H (.bl k) :=
  ev_cmp op_ne ha hb fun v1 v2 B H' _ l (h1 : v1 = x) (h2 : v2 = y) Q q => by
    subst h1 h2
    exact ⟨hs, q _ _ _ (.refl l) (by show V.bl _ = V.bl k; rw [hk])⟩
theorem ev_eqd {k : Bool} (hu : X.A.units + 64 < cLine) (ha : EvD X a σ H d1) (hb : EvD X b σ H d2) (s1 : SeqAt.shaped d1 = true) (s2 : SeqAt.shaped d2 = true) (hk : PyData.eqv d1 d2 = k) : Ev X (.Compare a [.Eq] [b] pos) σ H (.bl k) :=
  ev_cmp (op_eqD hu) ha hb fun v1 v2 B H' _ l h1 h2 Q q => ⟨d1, d2, l.dp h1, l.dp h2, s1, s2, q _ _ _ (.refl l) (by show V.bl _ = V.bl k; rw [hk])⟩
theorem ev_ned {k : Bool} (hu : X.A.units + 64 < cLine) (ha : EvD X a σ H d1) (hb : EvD X b σ H d2) (s1 : SeqAt.shaped d1 = true) (s2 : SeqAt.shaped d2 = true) (hk : (!PyData.eqv d1 d2) = k) : Ev X (.Compare a [.NotEq] [b] pos) σ H (.bl k) :=
  ev_cmp (op_neD hu) ha hb fun v1 v2 B H' _ l h1 h2 Q q => ⟨d1, d2, l.dp h1, l.dp h2, s1, s2, q _ _ _ (.refl l) (by show V.bl _ = V.bl k; rw [hk])⟩
theorem ev_lt {i j : Int} {k : Bool} (ha : Ev X a σ H (.int i)) (hb : Ev X b σ H (.int j)) (hk : decide (i < j) = k) : Ev X (.Compare a [.Lt] [b] pos) σ H (.bl k) :=
  ev_cmp op_lt ha hb fun v1 v2 B H' _ l h1 h2 Q q => ⟨i, j, h1, h2, q _ _ _ (.refl l) (by show V.bl _ = V.bl k; rw [hk])⟩
theorem ev_le {i j : Int} {k : Bool} (ha : Ev X a σ H (.int i)) (hb : Ev X b σ H (.int j)) (hk : decide (i ≤ j) = k) : Ev X (.Compare a [.LtE] [b] pos) σ H (.bl k) :=
  ev_cmp op_le ha hb fun v1 v2 B H' _ l h1 h2 Q q => ⟨i, j, h1, h2, q _ _ _ (.refl l) (by show V.bl _ = V.bl k; rw [hk])⟩
theorem ev_gt {i j : Int} {k : Bool} (ha : Ev X a σ H (.int i)) (hb : Ev X b σ H (.int j)) (hk : decide (j < i) = k) : Ev X (.Compare a [.Gt] [b] pos) σ H (.bl k) :=
  ev_cmp op_gt ha hb fun v1 v2 B H' _ l h1 h2 Q q => ⟨i, j, h1, h2, q _ _ _ (.refl l) (by show V.bl _ = V.bl k; rw [hk])⟩
theorem ev_ge {i j : Int} {k : Bool} (ha : Ev X a σ H (.int i)) (hb : Ev X b σ H (.int j)) (hk : decide (j ≤ i) = k) : Ev X (.Compare a [.GtE] [b] pos) σ H (.bl k) :=
  ev_cmp op_ge ha hb fun v1 v2 B H' _ l h1 h2 Q q => ⟨i, j, h1, h2, q _ _ _ (.refl l) (by show V.bl _ = V.bl k; rw [hk])⟩
/-- in a list or tuple of texts (and None) -/
theorem ev_in {k : Bool} {ss : List V} {q : Addr} (ha : Ev X a σ H x) (hb : EvP X b σ H P2) (hP : ∀ v H', Le H H' → P2.p v H' → ∃ q, v = .ref q ∧ (SqL X.K H' q ss ∨ SqT X.K H' q ss)) (hx : flatV x = true) (hf : ss.all flatV = true) (hk : inV x ss = k)
    (hm : behindInMarks .In b = false := by rfl) : Ev X (.Compare a [.In] [b] pos) σ H (.bl k) :=
  ev_cmp op_in_seq ha hb (fun v1 v2 B H' lb l (h1 : v1 = x) h2 Q q => by
    subst h1
    obtain ⟨q1, e, hs⟩ := hP v2 B lb h2
    exact ⟨q1, ss, e, hs.elim (fun z => .inl (l.sqL z)) (fun z => .inr (l.sqT z)), hx, hf, q _ _ _ (.refl l) (by show V.bl (if false = true then _ else _) = V.bl k; rw [if_neg Bool.false_ne_true, hk])⟩) hm
theorem ev_nin {k : Bool} {ss : List V} {q : Addr} (ha : Ev X a σ H x) (hb : EvP X b σ H P2) (hP : ∀ v H', Le H H' → P2.p v H' → ∃ q, v = .ref q ∧ (SqL X.K H' q ss ∨ SqT X.K H' q ss)) (hx : flatV x = true) (hf : ss.all flatV = true) (hk : (!inV x ss) = k)
    (hm : behindInMarks .NotIn b = false := by rfl) : Ev X (.Compare a [.NotIn] [b] pos) σ H (.bl k) :=
  ev_cmp op_notIn_seq ha hb (fun v1 v2 B H' lb l (h1 : v1 = x) h2 Q q => by
    subst h1
    obtain ⟨q1, e, hs⟩ := hP v2 B lb h2
    exact ⟨q1, ss, e, hs.elim (fun z => .inl (l.sqL z)) (fun z => .inr (l.sqT z)), hx, hf, q _ _ _ (.refl l) (by show V.bl (if true = true then _ else _) = V.bl k; rw [if_pos rfl, hk])⟩) hm

/-! ### truth -/
theorem et_v {k : Bool} (h : Ev X e σ H (.bl k)) (he : ∀ whole, isTrue e X.env whole = (do let v ← whole; standAt e.pos; holding [v] (truthy v)) := by intro _; rfl) : EvT X e σ H k :=
  .of (pt_val pe_w he) fun H1 l => (h H1 l).mono fun v H2 ⟨B, s, (q : v = .bl k)⟩ => ⟨k, q, rfl, s.same⟩
theorem et_cmp {op : CmpOp} {r : R2} {k : Bool} (ho : OpR X (compareOp op) r) (ha : EvP X a σ H P1) (hb : EvP X b σ H P2) (hr : ∀ v1 v2 B H', Le H B → Le B H' → P1.p v1 B → P2.p v2 B → ∀ Q : VK, (∀ H2, Same H' H2 → Q (.bl k) H2) → r v1 v2 H' Q)
    (hm : behindInMarks op b = false := by first | exact nomark _ | rfl) : EvT X (.Compare a [op] [b] pos) σ H k :=
  .of (pt_cmpR ho pe_w pe_w hm) fun H1 l1 => (ha H1 l1).mono fun v1 H2 ⟨B1, s1, p1⟩ => ((hb.le s1.up) H2 s1.lo).mono fun v2 H3 ⟨B2, s2, p2⟩ =>
    hr v1 v2 B2 H3 (s1.up.trans s2.up) s2.lo (P1.st s2.up p1) p2 _ fun H4 s3 => ⟨k, rfl, rfl, (s1.same.trans s2.same).trans s3⟩
theorem et_is {k : Bool} (ha : Ev X a σ H v) {j} {p2 : Pos} (hk : decide (v = .non) = k) : EvT X (.Compare a [.Is] [.Constant .none j p2] pos) σ H k :=
  et_cmp op_isN ha ev_none fun v1 v2 B H' _ l (h1 : v1 = v) h2 Q q => ⟨h2, by rw [h1, hk]; exact q _ (Same.refl _)⟩
theorem et_isnt {k : Bool} (ha : Ev X a σ H v) {j} {p2 : Pos} (hk : (!decide (v = .non)) = k) : EvT X (.Compare a [.IsNot] [.Constant .none j p2] pos) σ H k :=
  et_cmp op_notN ha ev_none fun v1 v2 B H' _ l (h1 : v1 = v) h2 Q q => ⟨h2, by rw [h1, hk]; exact q _ (Same.refl _)⟩
theorem et_eqs {k : Bool} (ha : Ev X a σ H x) (hb : Ev X b σ H y) (hs : scal x y = true) (hk : decide (x = y) = k) : EvT X (.Compare a [.Eq] [b] pos) σ H k :=
  et_cmp op_eq ha hb fun v1 v2 B H' _ l (h1 : v1 = x) (h2 : v2 = y) Q q => by
    subst h1 h2
    exact ⟨hs, by rw [hk]; exact q _ (Same.refl _)⟩
theorem et_nes {k : Bool} (ha : Ev X a σ H x) (hb : Ev X b σ H y) (hs : scal x y = true) (hk : (!decide (x = y)) = k) : EvT X (.Compare a [.NotEq] [b] pos) σ H k :=
  et_cmp op_ne ha hb fun v1 v2 B H' _ l (h1 : v1 = x) (h2 : v2 = y) Q q => by
    subst h1 h2
    exact ⟨hs, by rw [hk]; exact q _ (Same.refl _)⟩
theorem et_eqd {k : Bool} (hu : X.A.units + 64 < cLine) (ha : EvD X a σ H d1) (hb : EvD X b σ H d2) (s1 : SeqAt.shaped d1 = true) (s2 : SeqAt.shaped d2 = true) (hk : PyData.eqv d1 d2 = k) : EvT X (.Compare a [.Eq] [b] pos) σ H k :=
  et_cmp (op_eqD hu) ha hb fun v1 v2 B H' _ l h1 h2 Q q => ⟨d1, d2, l.dp h1, l.dp h2, s1, s2, by rw [hk]; exact q _ (Same.refl _)⟩
theorem et_ned {k : Bool} (hu : X.A.units + 64 < cLine) (ha : EvD X a σ H d1) (hb : EvD X b σ H d2) (s1 : SeqAt.shaped d1 = true) (s2 : SeqAt.shaped d2 = true) (hk : (!PyData.eqv d1 d2) = k) : EvT X (.Compare a [.NotEq] [b] pos) σ H k :=
  et_cmp (op_neD hu) ha hb fun v1 v2 B H' _ l h1 h2 Q q => ⟨d1, d2, l.dp h1, l.dp h2, s1, s2, by rw [hk]; exact q _ (Same.refl _)⟩
theorem et_lt {i j : Int} {k : Bool} (ha : Ev X a σ H (.int i)) (hb : Ev X b σ H (.int j)) (hk : decide (i < j) = k) : EvT X (.Compare a [.Lt] [b] pos) σ H k :=
  et_cmp op_lt ha hb fun v1 v2 B H' _ l h1 h2 Q q => ⟨i, j, h1, h2, by
    show Q (V.bl (decide (i < j))) H'
    rw [hk]
    exact q _ (Same.refl _)⟩
theorem et_gt {i j : Int} {k : Bool} (ha : Ev X a σ H (.int i)) (hb : Ev X b σ H (.int j)) (hk : decide (j < i) = k) : EvT X (.Compare a [.Gt] [b] pos) σ H k :=
  et_cmp op_gt ha hb fun v1 v2 B H' _ l h1 h2 Q q => ⟨i, j, h1, h2, by
    show Q (V.bl (decide (j < i))) H'
    rw [hk]
    exact q _ (Same.refl _)⟩
theorem et_ge {i j : Int} {k : Bool} (ha : Ev X a σ H (.int i)) (hb : Ev X b σ H (.int j)) (hk : decide (j ≤ i) = k) : EvT X (.Compare a [.GtE] [b] pos) σ H k :=
  et_cmp op_ge ha hb fun v1 v2 B H' _ l h1 h2 Q q => ⟨i, j, h1, h2, by
    show Q (V.bl (decide (j ≤ i))) H'
    rw [hk]
    exact q _ (Same.refl _)⟩
theorem et_in {k : Bool} {ss : List V} (ha : Ev X a σ H x) (hb : EvP X b σ H P2) (hP : ∀ v H', Le H H' → P2.p v H' → ∃ q, v = .ref q ∧ (SqL X.K H' q ss ∨ SqT X.K H' q ss)) (hx : flatV x = true) (hf : ss.all flatV = true) (hk : inV x ss = k)
    (hm : behindInMarks .In b = false := by rfl) : EvT X (.Compare a [.In] [b] pos) σ H k :=
  et_cmp op_in_seq ha hb (fun v1 v2 B H' lb l (h1 : v1 = x) h2 Q q => by
    subst h1
    obtain ⟨q1, e, hs⟩ := hP v2 B lb h2
    exact ⟨q1, ss, e, hs.elim (fun z => .inl (l.sqL z)) (fun z => .inr (l.sqT z)), hx, hf, by rw [if_neg Bool.false_ne_true, hk]; exact q _ (Same.refl _)⟩) hm
theorem et_nin {k : Bool} {ss : List V} (ha : Ev X a σ H x) (hb : EvP X b σ H P2) (hP : ∀ v H', Le H H' → P2.p v H' → ∃ q, v = .ref q ∧ (SqL X.K H' q ss ∨ SqT X.K H' q ss)) (hx : flatV x = true) (hf : ss.all flatV = true) (hk : (!inV x ss) = k)
    (hm : behindInMarks .NotIn b = false := by rfl) : EvT X (.Compare a [.NotIn] [b] pos) σ H k :=
  et_cmp op_notIn_seq ha hb (fun v1 v2 B H' lb l (h1 : v1 = x) h2 Q q => by
    subst h1
    obtain ⟨q1, e, hs⟩ := hP v2 B lb h2
    exact ⟨q1, ss, e, hs.elim (fun z => .inl (l.sqL z)) (fun z => .inr (l.sqT z)), hx, hf, by rw [if_pos rfl, hk]; exact q _ (Same.refl _)⟩) hm
/-- k in d, a dict with text keys -/
theorem et_ind {k : Bool} {q : Addr} {kvs : List (Key × V)} {z : Str} (ha : Ev X a σ H (.str z)) (hb : Ev X b σ H (.ref q)) (hq : Rd H q (.dK kvs)) (hk : (valV kvs (Sum.inr z)).isSome = k) (hu : X.A.units + 1 < cLine)
    (h1 : behindInMarks .In b = false := by rfl) : EvT X (.Compare a [.In] [b] pos) σ H k :=
  .of (pt_cmp (pc_din hu pe_w pe_w) h1) fun H1 l1 => (ha H1 l1).mono fun v1 H2 ⟨B1, s1, (p1 : v1 = .str z)⟩ => (hb H2 (l1.trans (le_of s1.same))).mono fun v2 H3 ⟨B2, s2, (p2 : v2 = .ref q)⟩ =>
    ⟨q, _, p2, .inl ⟨kvs, Sum.inr z, (l1.trans (le_of (s1.same.trans s2.same))).dk hq, p1, rfl⟩, _, rfl, by rw [hk], s1.same.trans s2.same⟩
theorem et_nind {k : Bool} {q : Addr} {kvs : List (Key × V)} {z : Str} (ha : Ev X a σ H (.str z)) (hb : Ev X b σ H (.ref q)) (hq : Rd H q (.dK kvs)) (hk : (!(valV kvs (Sum.inr z)).isSome) = k) (hu : X.A.units + 1 < cLine)
    (h1 : behindInMarks .NotIn b = false := by rfl) : EvT X (.Compare a [.NotIn] [b] pos) σ H k :=
  .of (pt_cmp (pc_dnotin hu pe_w pe_w) h1) fun H1 l1 => (ha H1 l1).mono fun v1 H2 ⟨B1, s1, (p1 : v1 = .str z)⟩ => (hb H2 (l1.trans (le_of s1.same))).mono fun v2 H3 ⟨B2, s2, (p2 : v2 = .ref q)⟩ =>
    ⟨q, _, p2, .inl ⟨kvs, Sum.inr z, (l1.trans (le_of (s1.same.trans s2.same))).dk hq, p1, rfl⟩, _, rfl, by rw [hk], s1.same.trans s2.same⟩
theorem et_not {k : Bool} (h : EvT X a σ H k) : EvT X (.UnaryOp .Not a pos) σ H (!k) :=
  .of (pt_not pt_w) fun H1 l => (h H1 l).mono fun b' H2 ⟨q, s⟩ => ⟨by rw [q], s⟩
theorem ew_and1 {k : Bool} (h : EvT X a σ H k) : EvW X (.BoolOp .And [a] pos) σ H k := fun H1 l => .of (pw_and1 pt_w) (h H1 l)
theorem ew_or1 {k : Bool} (h : EvT X a σ H k) : EvW X (.BoolOp .Or [a] pos) σ H k := fun H1 l => .of (pw_or1 pt_w) (h H1 l)
theorem ew_and {k j : Bool} {rest : List Expr} (h : EvT X a σ H k) (hr : k = true → EvW X (.BoolOp .And (b :: rest) pos) σ H j) : EvW X (.BoolOp .And (a :: b :: rest) pos) σ H (k && j) := fun H1 l =>
  .of (pw_and pt_w pw_w) ((h H1 l).mono fun b' H2 ⟨q, s⟩ => by
    subst q
    cases b' with
    | true =>
      rw [if_pos rfl]
      exact ⟨fun whole pins s0 I => thn ((hr rfl H2 (l.trans (le_of s))).run whole pins s0 I) fun b2 s2 ⟨H3, I3, q3, s3⟩ => ⟨H3, I3, q3, s.trans s3⟩⟩
    | false =>
      rw [if_neg Bool.false_ne_true]
      exact ⟨rfl, s⟩)
theorem ew_or {k j : Bool} {rest : List Expr} (h : EvT X a σ H k) (hr : k = false → EvW X (.BoolOp .Or (b :: rest) pos) σ H j) : EvW X (.BoolOp .Or (a :: b :: rest) pos) σ H (k || j) := fun H1 l =>
  .of (pw_or pt_w pw_w) ((h H1 l).mono fun b' H2 ⟨q, s⟩ => by
    subst q
    cases b' with
    | true =>
      rw [if_pos rfl]
      exact ⟨rfl, s⟩
    | false =>
      rw [if_neg Bool.false_ne_true]
      exact ⟨fun whole pins s0 I => thn ((hr rfl H2 (l.trans (le_of s))).run whole pins s0 I) fun b2 s2 ⟨H3, I3, q3, s3⟩ => ⟨H3, I3, q3, s.trans s3⟩⟩)
theorem et_w {k : Bool} (h : EvW X e σ H k) : EvT X e σ H k := fun H1 l => ⟨fun pins s I => (h H1 l).run _ pins s I⟩
theorem et_and2 {k j : Bool} (h : EvT X a σ H k) (hr : k = true → EvT X b σ H j) : EvT X (.BoolOp .And [a, b] pos) σ H (k && j) := et_w (ew_and h fun q => ew_and1 (hr q))
theorem et_or2 {k j : Bool} (h : EvT X a σ H k) (hr : k = false → EvT X b σ H j) : EvT X (.BoolOp .Or [a, b] pos) σ H (k || j) := et_w (ew_or h fun q => ew_or1 (hr q))
/-- and, or, not as values -/
theorem ev_not {k : Bool} (h : Ev X a σ H (.bl k)) : Ev X (.UnaryOp .Not a pos) σ H (.bl (!k)) :=
  .of (pe_not pe_w) fun H1 l => (h H1 l).mono fun v H2 ⟨B, s, (q : v = .bl k)⟩ => ⟨k, q, B, s, rfl⟩
theorem ev_one {op} (h : EvP X a σ H P) : EvP X (.BoolOp op [a] pos) σ H P := .of (pe_one pe_w) fun H1 l => h H1 l
theorem ev_and {k j : Bool} (h : Ev X a σ H (.bl k)) (hr : k = true → Ev X b σ H (.bl j)) : Ev X (.BoolOp .And [a, b] pos) σ H (.bl (k && j)) :=
  .of (pe_and pe_w pe_w) fun H1 l => (h H1 l).mono fun v H2 ⟨B, s, (q : v = .bl k)⟩ => ⟨k, q, by
    cases k with
    | true =>
      rw [if_pos rfl]
      exact ((ev_one (hr rfl)).le s.up H2 s.lo).mono fun u H3 ⟨B3, s3, p⟩ => ⟨B3, s.trans s3, p⟩
    | false =>
      rw [if_neg Bool.false_ne_true]
      exact ⟨B, s, rfl⟩⟩
theorem ev_or {k j : Bool} (h : Ev X a σ H (.bl k)) (hr : k = false → Ev X b σ H (.bl j)) : Ev X (.BoolOp .Or [a, b] pos) σ H (.bl (k || j)) :=
  .of (pe_or pe_w pe_w) fun H1 l => (h H1 l).mono fun v H2 ⟨B, s, (q : v = .bl k)⟩ => ⟨k, q, by
    cases k with
    | true =>
      rw [if_pos rfl]
      exact ⟨B, s, rfl⟩
    | false =>
      rw [if_neg Bool.false_ne_true]
      exact ((ev_one (hr rfl)).le s.up H2 s.lo).mono fun u H3 ⟨B3, s3, p⟩ => ⟨B3, s.trans s3, p⟩⟩
theorem ev_if {k : Bool} (h : EvT X c σ H k) (h1 : k = true → EvP X a σ H P) (h2 : k = false → EvP X b σ H P) : EvP X (.IfExp c a b pos) σ H P :=
  .of (pe_ifExp pt_w pe_w pe_w) fun H1 l => (h H1 l).mono fun b' H2 ⟨q, s⟩ => by
    subst q
    cases b' with
    | true =>
      rw [if_pos rfl]
      exact (h1 rfl H2 (l.trans (le_of s))).mono fun u H3 ⟨B3, s3, p⟩ => ⟨B3, (Stp.keep l s).trans s3, p⟩
    | false =>
      rw [if_neg Bool.false_ne_true]
      exact (h2 rfl H2 (l.trans (le_of s))).mono fun u H3 ⟨B3, s3, p⟩ => ⟨B3, (Stp.keep l s).trans s3, p⟩

/-! ### arguments, displays -/
theorem ea_nil : EvA X [] σ H [] := ⟨_, pa_nil, fun H1 l Q q => q [] H H1 (.refl l) trivial⟩
theorem ea_cons {es : List Expr} {Ps : List Pd} (h : EvP X e σ H P) (hr : EvA X es σ H Ps) (he : starEach (e :: es) X.env = (false, eval e X.env) :: starEach es X.env := by rfl) : EvA X (e :: es) σ H (P :: Ps) := by
  obtain ⟨t, pt, k⟩ := hr
  refine ⟨_, pa_cons pe_w pt he, fun H1 l Q q => ?_⟩
  refine (h H1 l).mono fun v H2 ⟨B, s, p⟩ => ?_
  refine k H2 (l.trans (le_of s.same)) _ fun vs B2 H3 s2 hs => ?_
  obtain ⟨B', s', l'⟩ := s2.lift s.up s.lo
  exact q (v :: vs) B' H3 (s.trans s') ⟨P.st s'.up p, hs.le l'⟩
theorem holds_dp {K : PySem.W.Frag} {H : Hp} : ∀ {ds : List PyData} {vs : List V}, Holds (ds.map (Pd.d K)) vs H → DpAll K H vs ds
  | [], [], _ => .nil
  | d :: ds, v :: vs, h => .cons h.1 (holds_dp h.2)
  | [], _ :: _, h => h.elim
  | _ :: _, [], h => h.elim
theorem small_line {n : Nat} (h : n ≤ 100000) : n ≤ sizeLine := Nat.le_trans h (by decide)
theorem ed_tup {es : List Expr} {ds : List PyData} {x1} (h : EvA X es σ H (ds.map (Pd.d X.K))) (hl : ds.length ≤ 100000) : EvD X (.Tuple es x1 pos) σ H (.tuple ds) := by
  obtain ⟨t, pt, k⟩ := h
  refine .of (pe_tup pt) fun H1 l => k H1 l _ fun vs B H2 s hs => ?_
  have hd := holds_dp hs
  exact ⟨by rw [dpa_len hd]; exact small_line hl, fun p hp => ⟨_, s.trans (.new s.lo hp), .tup (SqT.of upd_same) ((Le.new (le_none s.lo hp)).dpAll hd)⟩⟩
theorem ed_lst {es : List Expr} {ds : List PyData} (h : EvA X es σ H (ds.map (Pd.d X.K))) (hl : ds.length ≤ 100000) : EvD X (.List es pos) σ H (.list ds) := by
  obtain ⟨t, pt, k⟩ := h
  refine .of (pe_lst pt) fun H1 l => k H1 l _ fun vs B H2 s hs => ?_
  have hd := holds_dp hs
  exact ⟨by rw [dpa_len hd]; exact small_line hl, fun p hp => ⟨_, s.trans (.new s.lo hp), .lst (SqL.of upd_same) ((Le.new (le_none s.lo hp)).dpAll hd)⟩⟩
theorem ed_nilL : EvD X (.List [] pos) σ H (.list []) := ed_lst (ds := []) ea_nil (by decide)
theorem ed_nilT {x1} : EvD X (.Tuple [] x1 pos) σ H (.tuple []) := ed_tup (ds := []) ea_nil (by decide)
theorem ed_str {i : Str} {j} : EvD X (.Constant (.str i) j pos) σ H (.str i) := ev_d ev_str (.str i)
theorem ed_int {i : Int} {j} : EvD X (.Constant (.int i) j pos) σ H (.int i) := ev_d ev_int (.int i)
theorem ed_none {j} : EvD X (.Constant .none j pos) σ H .none := ev_d ev_none .non
end
end K57

set_option Elab.async false
set_option linter.all false
set_option maxRecDepth 100000
set_option maxHeartbeats 4000000
/-! ZC: subscripts, slices, calls, built-ins. -/
namespace K57
open PySem PySem.Spec PyProof.Rows L2

/-- a tracked list of data -/
def Pd.dl (K : PySem.W.Frag) (ds : List PyData) : Pd := ⟨fun x H => ∃ a xs, x = .ref a ∧ H a = some (.lst xs) ∧ DpAll K H xs ds, fun e ⟨a, xs, h1, h2, h3⟩ => ⟨a, xs, h1, e.lst h2, e.dpAll h3⟩⟩
abbrev EvL (X : Cx) (e : Expr) (σ : L2.St) (H : Hp) (ds : List PyData) : Prop := EvP X e σ H (Pd.dl X.K ds)

theorem dpa_at {K : PySem.W.Frag} {H : Hp} {vs : List V} {ds : List PyData} {i : Int} {d : PyData} (h : DpAll K H vs ds) (e : atI ds i = some d) : ∃ v, atI vs i = some v ∧ Dp K H v d := by
  unfold atI at e ⊢
  rw [dpa_len h]
  cases q : ixN ds.length i with
  | none =>
    rw [q] at e
    cases e
  | some j =>
    rw [q] at e
    exact dpa_getD h (show ds[j]? = some d from e)
def cutD (ds : List PyData) (lo hi : Option Int) : List PyData := (ds.drop (HT.sIx ds.length 0 lo)).take (HT.sIx ds.length ds.length hi - HT.sIx ds.length 0 lo)
theorem dpa_cut {K : PySem.W.Frag} {H : Hp} {vs : List V} {ds : List PyData} {lo hi : Option Int} (h : DpAll K H vs ds) : DpAll K H (cutV vs lo hi) (cutD ds lo hi) := by
  unfold cutV cutD
  rw [dpa_len h]
  exact dpa_take _ (dpa_drop _ h)

section
variable {X : Cx} {e a b c : Expr} {σ : L2.St} {H H' : Hp} {P P1 P2 : Pd} {v w x y : V} {d d1 d2 : PyData} {ds ds1 ds2 : List PyData} {pos p2 : Pos}

theorem EvL.toD (h : EvL X e σ H ds) : EvD X e σ H (.list ds) := h.imp fun v H' _ ⟨a, xs, h1, h2, h3⟩ => by
  subst h1
  exact .lst (SqL.of h2) h3
theorem el_lst {es : List Expr} (h : EvA X es σ H (ds.map (Pd.d X.K))) (hl : ds.length ≤ 100000) : EvL X (.List es pos) σ H ds := by
  obtain ⟨t, pt, k⟩ := h
  refine .of (pe_lst pt) fun H1 l => k H1 l _ fun vs B H2 s hs => ?_
  have hd := holds_dp hs
  exact ⟨by rw [dpa_len hd]; exact small_line hl, fun p hp => ⟨_, s.trans (.new s.lo hp), p, vs, rfl, upd_same, (Le.new (le_none s.lo hp)).dpAll hd⟩⟩
/-! ### subscripts -/
theorem ed_ixL {i : Int} (ha : EvD X a σ H (.list ds)) (hb : Ev X b σ H (.int i)) (hd : atI ds i = some d) (hs : PlainIx b := by exact fun _ _ => rfl) : EvD X (.Subscript a b pos) σ H d :=
  .of (pe_ix ix_list pe_w pe_w hs) fun H1 l => (ha H1 l).mono fun v1 H2 ⟨B1, s1, p1⟩ => ((hb.le s1.up) H2 s1.lo).mono fun v2 H3 ⟨B2, s2, p2⟩ => by
    obtain ⟨q, xs, e1, h1, h2⟩ := dp_list (s2.up.dp p1)
    obtain ⟨u, e2, h3⟩ := dpa_at h2 hd
    exact ⟨q, xs, i, u, e1, p2, s2.lo.sqL h1, e2, B2, s1.trans s2, h3⟩
theorem ed_ixT {i : Int} (ha : EvD X a σ H (.tuple ds)) (hb : Ev X b σ H (.int i)) (hd : atI ds i = some d) (hs : PlainIx b := by exact fun _ _ => rfl) : EvD X (.Subscript a b pos) σ H d :=
  .of (pe_ix ix_tup pe_w pe_w hs) fun H1 l => (ha H1 l).mono fun v1 H2 ⟨B1, s1, p1⟩ => ((hb.le s1.up) H2 s1.lo).mono fun v2 H3 ⟨B2, s2, p2⟩ => by
    obtain ⟨q, xs, e1, h1, h2⟩ := dp_tuple (s2.up.dp p1)
    obtain ⟨u, e2, h3⟩ := dpa_at h2 hd
    exact ⟨q, xs, i, u, e1, p2, s2.lo.sqT h1, e2, B2, s1.trans s2, h3⟩
theorem ev_ixL {q : Addr} {xs : List V} {i : Int} (ha : Ev X a σ H (.ref q)) (hq : SqL X.K H q xs) (hb : Ev X b σ H (.int i)) (hd : atI xs i = some v) (hs : PlainIx b := by exact fun _ _ => rfl) : Ev X (.Subscript a b pos) σ H v :=
  .of (pe_ix ix_list pe_w pe_w hs) fun H1 l => (ha H1 l).mono fun v1 H2 ⟨B1, s1, (p1 : v1 = .ref q)⟩ => ((hb.le s1.up) H2 s1.lo).mono fun v2 H3 ⟨B2, s2, p2⟩ =>
    ⟨q, xs, i, v, p1, p2, (l.trans (le_of (s1.same.trans s2.same))).sqL hq, hd, B2, s1.trans s2, rfl⟩
theorem ev_ixT {q : Addr} {xs : List V} {i : Int} (ha : Ev X a σ H (.ref q)) (hq : SqT X.K H q xs) (hb : Ev X b σ H (.int i)) (hd : atI xs i = some v) (hs : PlainIx b := by exact fun _ _ => rfl) : Ev X (.Subscript a b pos) σ H v :=
  .of (pe_ix ix_tup pe_w pe_w hs) fun H1 l => (ha H1 l).mono fun v1 H2 ⟨B1, s1, (p1 : v1 = .ref q)⟩ => ((hb.le s1.up) H2 s1.lo).mono fun v2 H3 ⟨B2, s2, p2⟩ =>
    ⟨q, xs, i, v, p1, p2, (l.trans (le_of (s1.same.trans s2.same))).sqT hq, hd, B2, s1.trans s2, rfl⟩
theorem ev_get {q : Addr} {kvs : List (Key × V)} {z : Str} (ha : Ev X a σ H (.ref q)) (hq : Rd H q (.dK kvs)) (hb : Ev X b σ H (.str z)) (hd : valV kvs (Sum.inr z) = some v) (hu : X.A.units + 1 < cLine) (hs : NoSl b := by exact fun _ _ => rfl) : Ev X (.Subscript a b pos) σ H v :=
  .of (pe_dget hu pe_w pe_w hs) fun H1 l => (ha H1 l).mono fun v1 H2 ⟨B1, s1, (p1 : v1 = .ref q)⟩ => ((hb.le s1.up) H2 s1.lo).mono fun v2 H3 ⟨B2, s2, (p2 : v2 = .str z)⟩ =>
    ⟨q, v, p1, .inl ⟨kvs, Sum.inr z, (l.trans (le_of (s1.same.trans s2.same))).dk hq, p2, hd.symm⟩, B2, s1.trans s2, rfl⟩
/-! ### slices, + -/
def EvO (X : Cx) (e : Option Expr) (σ : L2.St) (H : Hp) (o : Option Int) : Prop := ∃ t : TO, PO X e t ∧ ∀ H1, Le H H1 → ∀ Q : Option Int → Hp → Prop, (∀ H2, Same H1 H2 → Q o H2) → t σ H1 Q
theorem eo_none : EvO X none σ H none := ⟨_, po_none, fun H1 _ Q q => q H1 (Same.refl H1)⟩
theorem eo_some {i : Int} (h : Ev X e σ H (.int i)) : EvO X (some e) σ H (some i) := ⟨_, po_some pe_w, fun H1 l Q q => (h H1 l).mono fun v H2 ⟨B, s, p⟩ => ⟨i, p, q H2 s.same⟩⟩
theorem ed_slT {lo hi : Option Expr} {l h : Option Int} (he : EvD X e σ H (.tuple ds)) (hl : EvO X lo σ H l) (hh : EvO X hi σ H h) : EvD X (.Subscript e (.Slice lo hi none p2) pos) σ H (.tuple (cutD ds l h)) := by
  obtain ⟨tl, pl, kl⟩ := hl
  obtain ⟨th, ph, kh⟩ := hh
  refine .of (pe_slice sl_tupA pe_w pl ph) fun H1 l1 => (he H1 l1).mono fun v1 H2 ⟨B1, s1, p1⟩ => kl H2 (l1.trans (le_of s1.same)) _ fun H3 e3 => kh H3 (l1.trans (le_of (s1.same.trans e3))) _ fun H4 e4 => ?_
  obtain ⟨q, xs, e1, h1, h2⟩ := dp_tuple p1
  have s4 : Stp H H1 B1 H4 := s1.trans (.keep s1.lo (e3.trans e4))
  refine ⟨q, xs, e1, s4.lo.sqT h1, fun w => ⟨B1, s4, ?_⟩, fun _ p hp => ⟨_, s4.trans (.new s4.lo hp), .tup (SqT.of upd_same) ((Le.new (le_none s4.lo hp)).dpAll (dpa_cut h2))⟩⟩
  have ec : cutD ds l h = ds := by
    unfold cutD
    rw [dpa_len h2] at w
    rw [w.1, w.2, List.drop_zero, Nat.sub_zero, List.take_length]
  show Dp X.K B1 (.ref q) (.tuple (cutD ds l h))
  rw [ec, ← e1]
  exact p1
theorem el_slL {lo hi : Option Expr} {l h : Option Int} (he : EvD X e σ H (.list ds)) (hl : EvO X lo σ H l) (hh : EvO X hi σ H h) : EvL X (.Subscript e (.Slice lo hi none p2) pos) σ H (cutD ds l h) := by
  obtain ⟨tl, pl, kl⟩ := hl
  obtain ⟨th, ph, kh⟩ := hh
  refine .of (pe_slice sl_list pe_w pl ph) fun H1 l1 => (he H1 l1).mono fun v1 H2 ⟨B1, s1, p1⟩ => kl H2 (l1.trans (le_of s1.same)) _ fun H3 e3 => kh H3 (l1.trans (le_of (s1.same.trans e3))) _ fun H4 e4 => ?_
  obtain ⟨q, xs, e1, h1, h2⟩ := dp_list p1
  have s4 : Stp H H1 B1 H4 := s1.trans (.keep s1.lo (e3.trans e4))
  exact ⟨q, xs, e1, s4.lo.sqL h1, fun p hp => ⟨_, s4.trans (.new s4.lo hp), p, _, rfl, upd_same, (Le.new (le_none s4.lo hp)).dpAll (dpa_cut h2)⟩⟩
theorem ed_catT (ha : EvD X a σ H (.tuple ds1)) (hb : EvD X b σ H (.tuple ds2)) (hl : ds1.length + ds2.length ≤ 100000) : EvD X (.BinOp a .Add b pos) σ H (.tuple (ds1 ++ ds2)) :=
  ev_bin op_catA ha hb fun v1 v2 B H' _ l h1 h2 Q q => by
    obtain ⟨a1, xs, e1, g1, g2⟩ := dp_tuple h1
    obtain ⟨a2, ys, e2, k1, k2⟩ := dp_tuple h2
    refine ⟨a1, a2, xs, ys, e1, e2, l.sqT g1, l.sqT k1, by rw [dpa_len g2, dpa_len k2]; exact small_line hl, fun q1 => q _ B _ (.refl l) ?_, fun _ q2 => q _ B _ (.refl l) ?_, fun _ _ p hp => q _ _ _ (.new l hp) (.tup (SqT.of upd_same) ((Le.new (le_none l hp)).dpAll (dpa_append g2 k2)))⟩
    · subst q1
      cases g2
      rw [← e2]
      exact h2
    · subst q2
      cases k2
      rw [← e1, List.append_nil]
      exact h1
theorem el_cat (ha : EvL X a σ H ds1) (hb : EvL X b σ H ds2) (hl : ds1.length + ds2.length ≤ 100000) : EvL X (.BinOp a .Add b pos) σ H (ds1 ++ ds2) :=
  ev_bin op_cat ha hb fun v1 v2 B H' _ l ⟨a1, xs, e1, g1, g2⟩ ⟨a2, ys, e2, k1, k2⟩ Q q =>
    ⟨a1, a2, xs, ys, e1, e2, l.lst g1, l.lst k1, by rw [dpa_len g2, dpa_len k2]; exact small_line hl, fun p hp => q _ _ _ (.new l hp) ⟨p, _, rfl, upd_same, (Le.new (le_none l hp)).dpAll (dpa_append g2 k2)⟩⟩
theorem ev_neg {i : Int} (h : Ev X a σ H (.int i)) : Ev X (.UnaryOp .USub a pos) σ H (.int (-i)) :=
  .of (pe_un un_neg pe_w) fun H1 l => (h H1 l).mono fun v H2 ⟨B, s, p⟩ => ⟨i, p, B, s, rfl⟩

/-! ### defs -/
/-- a def that changes nothing that stands: A says which arguments it takes and what is known of the answer -/
def pureSp (A : List V → Hp → Pd → Prop) : Sp := fun vs H Q _ => ∃ B R, Le B H ∧ A vs B R ∧ ∀ v B' H', Stp B H B' H' → R.p v B' → Q v H'
theorem ev_call {A : List V → Hp → Pd → Prop} {k j : Nat} {n : Str} {R : Pd} {Ps : List Pd} {p : Pos} {es : List Expr} (c : C8.Cal X.prog X.w X.K X.mg X.base k n (pureSp A) []) (hr : Room j X.A) (ha : EvA X (e :: es) σ H Ps)
    (h : ∀ vs B, Le H B → Holds Ps vs B → A vs B R) (hk : k ≤ j := by decide) (hg : Gl X n := by rfl) (hdb : (n == ("__debug__" : Str)) = false := by decide)
    (he : starEach (e :: es) X.env = (false, eval e X.env) :: starEach es X.env := by rfl) (hpl : (backTo pos (starEach es X.env)).any (·.1) = false := by rfl) : EvP X (.Call (.Name n p) (e :: es) [] pos) σ H R := by
  obtain ⟨t, pt, ka⟩ := ha
  refine .of (C8.pe_c c hr hk hg pt hdb he hpl) fun H1 l => ka H1 l _ fun vs B H2 s hs => ?_
  show pureSp A (vs ++ []) H2 _ _
  rw [List.append_nil]
  exact ⟨B, R, s.lo, h vs B s.up hs, fun v B' H' s' p => ⟨B', s.trans s', p⟩⟩
theorem ev_meth {A : List V → Hp → Pd → Prop} {k j : Nat} {C q dx : Addr} {fs : List (Str × V)} {m : Str} {R : Pd} {Ps : List Pd} {apos : Pos} {es : List Expr} {o : Expr} {pl : Sem Bool} (c : C8.Met X.prog X.w X.K X.mg X.base k C m (pureSp A) []) (hr : Room j X.A)
    (ho : Ev X o σ H (.ref q)) (hq : H q = some (.ins C dx fs)) (hl : fs.lookup m = none) (ha : EvA X (e :: es) σ H Ps) (h : ∀ vs B, Le H B → Holds Ps vs B → A (.ref q :: vs) B R) (hk : k ≤ j := by decide)
    (hst : starEach (e :: es) X.env = (false, eval e X.env) :: starEach es X.env := by rfl) (hpl : (backTo pos (starEach es X.env)).any (·.1) = false := by rfl)
    (ht : eval (.Call (.Attribute o m apos) (e :: es) [] pos) X.env = (do
      let ov ← eval o X.env
      standAt apos.atName
      let (f, first) ← holding [ov] (getMethod ov m pl)
      callWith pos f first (backTo pos (starEach (e :: es) X.env)) (backToKw pos (keywordEach [] X.env))) := by rfl) : EvP X (.Call (.Attribute o m apos) (e :: es) [] pos) σ H R := by
  obtain ⟨t, pt, ka⟩ := ha
  refine .of (C8.pe_mt (pl := pl) c hr hk pe_w pt hst hpl ht) fun H1 l => (ho H1 l).mono fun v1 H2 ⟨B1, s1, (p1 : v1 = .ref q)⟩ => ⟨q, dx, fs, p1, s1.same _ _ (l.ins hq), hl, ?_⟩
  refine ka H2 (l.trans (le_of s1.same)) _ fun vs B2 H3 s2 hs => ?_
  obtain ⟨B', s', l'⟩ := s2.lift s1.up s1.lo
  show pureSp A (v1 :: (vs ++ [])) H3 _ _
  rw [List.append_nil, p1]
  exact ⟨B', R, s'.lo, h vs B' (s1.up.trans s'.up) (hs.le l'), fun v B3 H4 s4 p => ⟨B3, (s1.trans s').trans s4, p⟩⟩
theorem ev_meth0 {A : List V → Hp → Pd → Prop} {k j : Nat} {C q dx : Addr} {fs : List (Str × V)} {m : Str} {R : Pd} {apos : Pos} {o : Expr} {pl : Sem Bool} (c : C8.Met X.prog X.w X.K X.mg X.base k C m (pureSp A) []) (hr : Room j X.A)
    (ho : Ev X o σ H (.ref q)) (hq : H q = some (.ins C dx fs)) (hl : fs.lookup m = none) (h : ∀ B, Le H B → A [.ref q] B R) (hk : k ≤ j := by decide)
    (ht : eval (.Call (.Attribute o m apos) [] [] pos) X.env = (do
      let ov ← eval o X.env
      standAt apos.atName
      let (f, first) ← holding [ov] (getMethod ov m pl)
      callWith pos f first (backTo pos (starEach [] X.env)) (backToKw pos (keywordEach [] X.env))) := by rfl) : EvP X (.Call (.Attribute o m apos) [] [] pos) σ H R := by
  refine .of (C8.pe_mt0 (pl := pl) c hr hk pe_w ht) fun H1 l => (ho H1 l).mono fun v1 H2 ⟨B1, s1, (p1 : v1 = .ref q)⟩ => ⟨q, dx, fs, p1, s1.same _ _ (l.ins hq), hl, ?_⟩
  show pureSp A (v1 :: ([] ++ [])) H2 _ C8.E0
  rw [p1]
  exact ⟨B1, R, s1.lo, h B1 s1.up, fun v B3 H4 s4 p => ⟨B3, s1.trans s4, p⟩⟩
/-- a property -/
structure Prp (P : Program) (w : World) (K : PySem.W.Frag) (mg : Str → Option Value) (base : Heap) (k : Nat) (C : Addr) (f : Str) (sp : Sp) : Prop where
  ex : ∃ (p g : Addr) (fd : FuncData) (ps : List Str), Cls K C ∧ PropOf K C f p g ∧ FnOk P w K mg base CX0 k g fd ps sp ∧ Binds K fd ps []
theorem ev_prop {A : List V → Hp → Pd → Prop} {k j : Nat} {C q dx : Addr} {fs : List (Str × V)} {f : Str} {R : Pd} (c : Prp X.prog X.w X.K X.mg X.base k C f (pureSp A)) (hr : Room j X.A) (ho : Ev X e σ H (.ref q)) (hq : H q = some (.ins C dx fs))
    (h : ∀ B, Le H B → A [.ref q] B R) (hk : k + 1 ≤ j := by decide) (hab : attributeBase e f X.env (eval e X.env) = eval e X.env := by rfl) : EvP X (.Attribute e f pos) σ H R := by
  obtain ⟨p, g, fd, ps, hc, hp, F, b⟩ := c.ex
  refine .of (pe_prop (E := E0) pe_w hc hp F (hr.mono hk) b .nil (fun _ _ _ _ _ _ _ z => z.elim) hab) fun H1 l => (ho H1 l).mono fun v1 H2 ⟨B1, s1, (p1 : v1 = .ref q)⟩ => ⟨q, dx, fs, p1, s1.same _ _ (l.ins hq), ?_⟩
  exact ⟨B1, R, s1.lo, h B1 s1.up, fun v B3 H4 s4 p => ⟨B3, s1.trans s4, p⟩⟩

/-! ### built-ins -/
theorem ev_cb {r : List V → Hp → VK → Prop} {id : String} {n : Str} {p : Pos} {es : List Expr} {Ps : List Pd} (hc : CallR X (.builtin id) r) (hm : X.mg n = none) (hv : bootBuiltins n = some (.builtin id)) (ha : EvA X (e :: es) σ H Ps)
    (h : ∀ vs B H', Le H B → Le B H' → Holds Ps vs B → ∀ Q : VK, (∀ v B2 H2, Stp B H' B2 H2 → P.p v B2 → Q v H2) → r vs H' Q) (hg : Gl X n := by rfl) (hn : n ≠ "__name__" := by decide) (hdb : (n == ("__debug__" : Str)) = false := by decide)
    (he : starEach (e :: es) X.env = (false, eval e X.env) :: starEach es X.env := by rfl) (hpl : (backTo pos (starEach es X.env)).any (·.1) = false := by rfl) : EvP X (.Call (.Name n p) (e :: es) [] pos) σ H P := by
  obtain ⟨t, pt, ka⟩ := ha
  refine .of (pe_callB hc hg hm hv pt hn hdb he hpl) fun H1 l => ka H1 l _ fun vs B H2 s hs => ?_
  exact h vs B H2 s.up s.lo hs _ fun v B2 H3 s2 p => ⟨B2, s.trans s2, p⟩
theorem ev_ct {r : List V → Hp → VK → Prop} {id : String} {n : Str} {p : Pos} {es : List Expr} {Ps : List Pd} (hc : CallR X (.type id) r) (hm : X.mg n = none) (hv : bootBuiltins n = some (.type id)) (ha : EvA X (e :: es) σ H Ps)
    (h : ∀ vs B H', Le H B → Le B H' → Holds Ps vs B → ∀ Q : VK, (∀ v B2 H2, Stp B H' B2 H2 → P.p v B2 → Q v H2) → r vs H' Q) (hg : Gl X n := by rfl) (hn : n ≠ "__name__" := by decide) (hdb : (n == ("__debug__" : Str)) = false := by decide)
    (he : starEach (e :: es) X.env = (false, eval e X.env) :: starEach es X.env := by rfl) (hpl : (backTo pos (starEach es X.env)).any (·.1) = false := by rfl) : EvP X (.Call (.Name n p) (e :: es) [] pos) σ H P := by
  obtain ⟨t, pt, ka⟩ := ha
  refine .of (pe_callTy hc hg hm hv pt hn hdb he hpl) fun H1 l => ka H1 l _ fun vs B H2 s hs => ?_
  exact h vs B H2 s.up s.lo hs _ fun v B2 H3 s2 p => ⟨B2, s.trans s2, p⟩
theorem ea_1 (h : EvP X e σ H P) (he : starEach [e] X.env = (false, eval e X.env) :: starEach [] X.env := by rfl) : EvA X [e] σ H [P] := ea_cons h ea_nil he
theorem ev_lenL {p : Pos} (hm : X.mg "len" = none) (h : EvD X e σ H (.list ds)) (hg : Gl X "len" := by rfl) (he : starEach [e] X.env = (false, eval e X.env) :: starEach [] X.env := by rfl) : Ev X (.Call (.Name "len" p) [e] [] pos) σ H (.int ds.length) :=
  ev_cb call_len_seq hm PySem.boot_len (ea_1 h he) (fun vs B H' _ l hs Q q => by
    obtain ⟨v, rfl, p1⟩ := holds1 hs
    obtain ⟨a, xs, rfl, h1, h2⟩ := dp_list p1
    exact ⟨a, xs, rfl, .inl (l.sqL h1), q _ B _ (.refl l) (by show V.int _ = V.int _; rw [dpa_len h2])⟩) hg (by decide) (by decide) he rfl
theorem ev_lenT {p : Pos} (hm : X.mg "len" = none) (h : EvD X e σ H (.tuple ds)) (hg : Gl X "len" := by rfl) (he : starEach [e] X.env = (false, eval e X.env) :: starEach [] X.env := by rfl) : Ev X (.Call (.Name "len" p) [e] [] pos) σ H (.int ds.length) :=
  ev_cb call_len_seq hm PySem.boot_len (ea_1 h he) (fun vs B H' _ l hs Q q => by
    obtain ⟨v, rfl, p1⟩ := holds1 hs
    obtain ⟨a, xs, rfl, h1, h2⟩ := dp_tuple p1
    exact ⟨a, xs, rfl, .inr (l.sqT h1), q _ B _ (.refl l) (by show V.int _ = V.int _; rw [dpa_len h2])⟩) hg (by decide) (by decide) he rfl
theorem ev_lenS {p : Pos} {z : Str} (hm : X.mg "len" = none) (h : Ev X e σ H (.str z)) (hz : z.length ≤ 100000) (hg : Gl X "len" := by rfl) (he : starEach [e] X.env = (false, eval e X.env) :: starEach [] X.env := by rfl) : Ev X (.Call (.Name "len" p) [e] [] pos) σ H (.int z.length) :=
  ev_cb call_len_str hm PySem.boot_len (ea_1 h he) (fun vs B H' _ l hs Q q => by
    obtain ⟨v, rfl, (p1 : v = .str z)⟩ := holds1 hs
    subst p1
    exact ⟨z, rfl, small_line hz, q _ B _ (.refl l) rfl⟩) hg (by decide) (by decide) he rfl
/-- len of a dict, locked or not -/
theorem call_lenR : CallR X (.builtin "len") (fun xs H Q => ∃ a kvs, xs = [V.ref a] ∧ Rd H a (.dK kvs) ∧ Q (.int kvs.length) H) := by
  intro pins s σ H xs us Q I r h
  obtain ⟨a, kvs, rfl, ha, q⟩ := h
  obtain ⟨u, rfl, ru⟩ := vals1 r
  cases ru
  exact d_len I ha fun t s' I' => ⟨.int kvs.length, H, I', ⟨t, rfl⟩, q⟩
theorem ev_lenD {p : Pos} {q : Addr} {kvs : List (Key × V)} (hm : X.mg "len" = none) (h : Ev X e σ H (.ref q)) (hq : Rd H q (.dK kvs)) (hg : Gl X "len" := by rfl) (he : starEach [e] X.env = (false, eval e X.env) :: starEach [] X.env := by rfl) :
    Ev X (.Call (.Name "len" p) [e] [] pos) σ H (.int kvs.length) :=
  ev_cb call_lenR hm PySem.boot_len (ea_1 h he) (fun vs B H' lb l hs Q k => by
    obtain ⟨v, rfl, (p1 : v = .ref q)⟩ := holds1 hs
    subst p1
    exact ⟨q, kvs, rfl, (lb.trans l).dk hq, k _ B _ (.refl l) rfl⟩) hg (by decide) (by decide) he rfl
/-- isinstance(x, T) -/
theorem ev_isi {p : Pos} {t u : Value} {k : Bool} (hm : X.mg "isinstance" = none) (hv : bootBuiltins "isinstance" = some (.builtin "isinstance")) (ha : EvP X a σ H P1) (hb : Ev X b σ H w) (hc : ClsV w u) (hk : PySem.W.kitOne X.K t u = some k)
    (ht : ∀ v B, Le H B → P1.p v B → ∀ H', Le B H' → TyX X.K H' v t) (hg : Gl X "isinstance" := by rfl) (he : starEach [a, b] X.env = (false, eval a X.env) :: starEach [b] X.env := by rfl) (he2 : starEach [b] X.env = (false, eval b X.env) :: starEach [] X.env := by rfl)
    (hpl : (backTo pos (starEach [b] X.env)).any (·.1) = false := by rfl) : Ev X (.Call (.Name "isinstance" p) [a, b] [] pos) σ H (.bl k) :=
  ev_cb call_isi hm hv (ea_cons ha (ea_1 hb he2) he) (fun vs B H' lb l hs Q q => by
    obtain ⟨v1, v2, rfl, p1, (p2 : v2 = w)⟩ := holds2 hs
    subst p2
    exact ⟨v1, v2, t, u, k, rfl, hc, ht v1 B lb p1 H' l, hk, q _ B _ (.refl l) rfl⟩) hg (by decide) (by decide) he hpl
/-- isinstance(x, (T1, T2, ..)) -/
theorem ev_isiT {p : Pos} {t : Value} {us : List Value} {ws : List V} {k : Bool} {x1 : Nat} {tp : Pos} {cs : List Expr} (hm : X.mg "isinstance" = none) (hv : bootBuiltins "isinstance" = some (.builtin "isinstance")) (ha : EvP X a σ H P1) (hb : EvA X cs σ H (ws.map Pd.v)) (hl : ws.length ≤ 100000)
    (hc : Paired ClsV ws us) (hk : PySem.W.kitAny X.K t us = some k)
    (ht : ∀ v B, Le H B → P1.p v B → ∀ H', Le B H' → TyX X.K H' v t) (hg : Gl X "isinstance" := by rfl) (he : starEach [a, .Tuple cs x1 tp] X.env = (false, eval a X.env) :: starEach [.Tuple cs x1 tp] X.env := by rfl)
    (he2 : starEach [.Tuple cs x1 tp] X.env = (false, eval (.Tuple cs x1 tp) X.env) :: starEach [] X.env := by rfl)
    (hpl : (backTo pos (starEach [.Tuple cs x1 tp] X.env)).any (·.1) = false := by rfl) : Ev X (.Call (.Name "isinstance" p) [a, .Tuple cs x1 tp] [] pos) σ H (.bl k) := by
  have hvs : ∀ {ws : List V} {vs : List V} {B : Hp}, Holds (ws.map Pd.v) vs B → vs = ws := by
    intro ws
    induction ws with
    | nil =>
      intro vs B h
      cases vs with
      | nil => rfl
      | cons _ _ => exact h.elim
    | cons w ws ih =>
      intro vs B h
      cases vs with
      | nil => exact h.elim
      | cons v vs =>
        rw [ih h.2, show v = w from h.1]
  have hT : EvP X (.Tuple cs x1 tp) σ H ⟨fun v H => ∃ q, v = .ref q ∧ H q = some (.tup ws), fun e ⟨q, h1, h2⟩ => ⟨q, h1, e.tup h2⟩⟩ := by
    obtain ⟨tt, pt, ka⟩ := hb
    refine .of (pe_tup pt) fun H1 l => ka H1 l _ fun vs B H2 s hs => ?_
    rw [hvs hs]
    exact ⟨small_line hl, fun p hp => ⟨_, s.trans (.new s.lo hp), p, rfl, upd_same⟩⟩
  exact ev_cb call_isiT hm hv (ea_cons ha (ea_1 hT he2) he) (fun vs B H' lb l hs Q q => by
    obtain ⟨v1, v2, rfl, p1, tq, e2, h2⟩ := holds2 hs
    subst e2
    exact ⟨v1, tq, ws, t, us, k, rfl, l.tup h2, hc, ht v1 B lb p1 H' l, hk, q _ B _ (.refl l) rfl⟩) hg (by decide) (by decide) he hpl
/-- str(text) -/
theorem ev_strS {p : Pos} {z : Str} (hm : X.mg "str" = none) (hv : bootBuiltins "str" = some (.type "str")) (h : Ev X e σ H (.str z)) (hg : Gl X "str" := by rfl) (he : starEach [e] X.env = (false, eval e X.env) :: starEach [] X.env := by rfl) : Ev X (.Call (.Name "str" p) [e] [] pos) σ H (.str z) :=
  ev_ct SkE.call_str_str hm hv (ea_1 h he) (fun vs B H' _ l hs Q q => by
    obtain ⟨v, rfl, (p1 : v = .str z)⟩ := holds1 hs
    subst p1
    exact ⟨z, rfl, q _ B _ (.refl l) rfl⟩) hg (by decide) (by decide) he rfl
/-- int(n), int(truth) -/
theorem ev_intI {p : Pos} {i : Int} (hm : X.mg "int" = none) (hv : bootBuiltins "int" = some (.type "int")) (h : Ev X e σ H (.int i)) (hg : Gl X "int" := by rfl) (he : starEach [e] X.env = (false, eval e X.env) :: starEach [] X.env := by rfl) : Ev X (.Call (.Name "int" p) [e] [] pos) σ H (.int i) :=
  ev_ct call_int1 hm hv (ea_1 h he) (fun vs B H' _ l hs Q q => by
    obtain ⟨v, rfl, (p1 : v = .int i)⟩ := holds1 hs
    subst p1
    exact .inl ⟨i, rfl, q _ B _ (.refl l) rfl⟩) hg (by decide) (by decide) he rfl
theorem ev_intB {p : Pos} {i : Bool} (hm : X.mg "int" = none) (hv : bootBuiltins "int" = some (.type "int")) (h : Ev X e σ H (.bl i)) (hg : Gl X "int" := by rfl) (he : starEach [e] X.env = (false, eval e X.env) :: starEach [] X.env := by rfl) : Ev X (.Call (.Name "int" p) [e] [] pos) σ H (.int (if i then 1 else 0)) :=
  ev_ct call_int1 hm hv (ea_1 h he) (fun vs B H' _ l hs Q q => by
    obtain ⟨v, rfl, (p1 : v = .bl i)⟩ := holds1 hs
    subst p1
    exact .inr ⟨i, rfl, q _ B _ (.refl l) rfl⟩) hg (by decide) (by decide) he rfl
/-- list(tuple or list), tuple(list), list(dict) -/
theorem el_ofT {p : Pos} (hm : X.mg "list" = none) (hv : bootBuiltins "list" = some (.type "list")) (hcalm : X.calm = true) (h : EvD X e σ H (.tuple ds)) (hg : Gl X "list" := by rfl) (he : starEach [e] X.env = (false, eval e X.env) :: starEach [] X.env := by rfl) :
    EvL X (.Call (.Name "list" p) [e] [] pos) σ H ds :=
  ev_ct call_list_of hm hv (ea_1 h he) (fun vs B H' _ l hs Q q => by
    obtain ⟨v, rfl, p1⟩ := holds1 hs
    obtain ⟨a, xs, rfl, h1, h2⟩ := dp_tuple p1
    exact ⟨a, xs, rfl, .inr (l.sqT h1), fun p hp => q _ _ _ (.new l hp) ⟨p, xs, rfl, upd_same, (Le.new (le_none l hp)).dpAll h2⟩⟩) hg (by decide) (by decide) he rfl
theorem ed_tupL {p : Pos} (hm : X.mg "tuple" = none) (hv : bootBuiltins "tuple" = some (.type "tuple")) (hcalm : X.calm = true) (h : EvD X e σ H (.list ds)) (hg : Gl X "tuple" := by rfl) (he : starEach [e] X.env = (false, eval e X.env) :: starEach [] X.env := by rfl) :
    EvD X (.Call (.Name "tuple" p) [e] [] pos) σ H (.tuple ds) :=
  ev_ct call_tuple_of hm hv (ea_1 h he) (fun vs B H' _ l hs Q q => by
    obtain ⟨v, rfl, p1⟩ := holds1 hs
    obtain ⟨a, xs, rfl, h1, h2⟩ := dp_list p1
    exact ⟨a, xs, rfl, .inl ⟨l.sqL h1, fun p hp => q _ _ _ (.new l hp) (.tup (SqT.of upd_same) ((Le.new (le_none l hp)).dpAll h2))⟩⟩) hg (by decide) (by decide) he rfl
theorem el_ofD {p : Pos} {q : Addr} {kvs : List (Key × V)} {ss : List Str} (hm : X.mg "list" = none) (hv : bootBuiltins "list" = some (.type "list")) (hcalm : X.calm = true) (h : Ev X e σ H (.ref q)) (hq : Rd H q (.dK kvs)) (hk : kvs.map (·.1) = ss.map Sum.inr)
    (hg : Gl X "list" := by rfl) (he : starEach [e] X.env = (false, eval e X.env) :: starEach [] X.env := by rfl) : EvL X (.Call (.Name "list" p) [e] [] pos) σ H (ss.map .str) :=
  ev_ct (call_listD hcalm) hm hv (ea_1 h he) (fun vs B H' lb l hs Q k => by
    obtain ⟨v, rfl, (p1 : v = .ref q)⟩ := holds1 hs
    subst p1
    have ek : (kvs.map fun kv => kV kv.1) = ss.map V.str := by
      have e := congrArg (List.map kV) hk
      rw [List.map_map, List.map_map] at e
      exact e
    refine ⟨q, kvs, rfl, (lb.trans l).dk hq, fun p hp => ?_⟩
    rw [ek]
    exact k _ _ _ (.new l hp) ⟨p, _, rfl, upd_same, dpa_strs ss⟩) hg (by decide) (by decide) he rfl
/-- sorted(list of texts) -/
theorem el_sortedS {p : Pos} {ss : List Str} {ys : List Str} (hm : X.mg "sorted" = none) (hv : bootBuiltins "sorted" = some (.builtin "sorted")) (h : EvD X e σ H (.list (ss.map .str))) (h64 : ss.length < 64) (hy : ∀ zs : List Str, zs.Perm ss → sortedS zs = true → zs = ys)
    (hg : Gl X "sorted" := by rfl) (he : starEach [e] X.env = (false, eval e X.env) :: starEach [] X.env := by rfl) : EvL X (.Call (.Name "sorted" p) [e] [] pos) σ H (ys.map .str) :=
  ev_cb cr_sortedS hm hv (ea_1 h he) (fun vs B H' _ l hs Q q => by
    obtain ⟨v, rfl, p1⟩ := holds1 hs
    obtain ⟨a, xs, rfl, h1, h2⟩ := dp_list p1
    rw [dpa_strs_inv h2] at h1
    refine ⟨a, ss, rfl, l.sqL h1, h64, fun zs p pm so hp => ?_⟩
    rw [hy zs pm so]
    exact q _ _ _ (.new l hp) ⟨p, _, rfl, upd_same, dpa_strs ys⟩) hg (by decide) (by decide) he rfl
end
end K57

set_option Elab.async false
set_option linter.all false
set_option maxRecDepth 100000
set_option maxHeartbeats 4000000
/-! ZD: comprehensions. -/
namespace K57
open PySem PySem.Spec PyProof.Rows L2

/-- the block of a comprehension -/
abbrev Bk (X : Cx) (scope : Scope) (s : Shared) (H : Hp) (C : Addr) (cl : List (Str × Addr)) (fp : List Addr) : Cx := X.blk s H scope (compEnvC scope cl C X.env) fp

structure WI (X : Cx) (ifs : List Expr) (σ : L2.St) (H : Hp) (Q : Bool → Hp → Prop) : Prop where
  run : ∀ (pins : List (Addr × Obj)) (s : Shared), Inv X pins σ H s →
  wpAny (model X.prog X.w) X.A (forIn ifs true fun c r => if r = true then do let ok ← isTrue c X.env (eval c X.env); pure (ForInStep.yield ok) else pure (ForInStep.yield r)) (TP X pins σ Q) X.xe s
theorem WI.of {X : Cx} {ifs : List Expr} {σ : L2.St} {H : Hp} {t : TT} {Q : Bool → Hp → Prop} (h : PTs X ifs t) (q : t σ H Q) : WI X ifs σ H Q := ⟨fun pins s I => h.run pins s σ H Q I q⟩
theorem WI.mono {X : Cx} {ifs : List Expr} {σ : L2.St} {H : Hp} {Q Q' : Bool → Hp → Prop} (h : WI X ifs σ H Q) (k : ∀ b H', Q b H' → Q' b H') : WI X ifs σ H Q' := ⟨fun pins s I => thn (h.run pins s I) fun b s' ⟨H', I', q⟩ => ⟨H', I', k b H' q⟩⟩
def EvI (X : Cx) (ifs : List Expr) (σ : L2.St) (H : Hp) (b : Bool) : Prop := ∀ H1, Le H H1 → WI X ifs σ H1 (fun b' H2 => b' = b ∧ Same H1 H2)
section
variable {X : Cx} {c : Expr} {σ : L2.St} {H : Hp}
theorem ei_nil : EvI X [] σ H true := fun H1 l => .of pts_nil ⟨rfl, Same.refl H1⟩
theorem ei_one {b : Bool} (h : EvT X c σ H b) : EvI X [c] σ H b := fun H1 l => .of (pts_one pt_w) (h H1 l)
end

theorem wipe_get : ∀ (vs : List Nat) (σ : L2.St) (i : Nat), (wipe σ vs)[i]? = if i ∈ vs then (σ[i]?).map (fun _ => none) else σ[i]?
  | [], σ, i => by simp [wipe]
  | v :: vs, σ, i => by
    unfold wipe
    rw [List.getElem?_set, wipe_length]
    by_cases h : v = i
    · subst h
      rw [if_pos rfl]
      by_cases hl : v < σ.length
      · rw [if_pos hl, if_pos List.mem_cons_self, List.getElem?_eq_getElem hl]
        rfl
      · rw [if_neg hl, if_pos List.mem_cons_self, List.getElem?_eq_none (by omega)]
        rfl
    · rw [if_neg h, wipe_get vs σ i]
      by_cases hm : i ∈ vs
      · rw [if_pos hm, if_pos (List.mem_cons_of_mem _ hm)]
      · rw [if_neg hm, if_neg (by simp [hm, Ne.symm h])]
theorem wipe_set {σ : L2.St} {vs : List Nat} {j : Nat} {o : Option V} (h : j ∈ vs) : wipe ((wipe σ vs).set j o) vs = wipe σ vs := by
  apply List.ext_getElem?
  intro i
  rw [wipe_get, wipe_get]
  by_cases hi : i ∈ vs
  · rw [if_pos hi, if_pos hi, List.getElem?_set, wipe_length]
    by_cases hj : j = i
    · subst hj
      rw [if_pos rfl]
      by_cases hl : j < σ.length
      · rw [if_pos hl, List.getElem?_eq_getElem hl]
        all_goals rfl
      · rw [if_neg hl, List.getElem?_eq_none (by omega)]
        all_goals rfl
    · rw [if_neg hj, wipe_get, if_pos hi]
      cases σ[i]? <;> rfl
  · have hj : j ≠ i := fun q => hi (q ▸ h)
    rw [if_neg hi, if_neg hi, List.getElem?_set, if_neg hj, wipe_get, if_neg hi]

/-- the list at D so far -/
structure Ac (K : PySem.W.Frag) (B H1 : Hp) (D : Addr) (ds : List PyData) (H' : Hp) : Prop where
  ex : ∃ B' acc, Same H1 H' ∧ Le B B' ∧ Le B' H' ∧ (∀ a, B a = none → H1 a ≠ none → B' a = none) ∧ B' D = none ∧ H' D = some (.lst acc) ∧ DpAll K B' acc ds ∧ acc.length ≤ 100000
theorem Ac.start {K : PySem.W.Frag} {B H1 : Hp} {D : Addr} (l : Le B H1) (hD : H1 D = none) : Ac K B H1 D [] (upd H1 D (.lst [])) :=
  ⟨B, [], same_new hD, Le.refl B, l.mut (le_none l hD), fun _ h _ => h, le_none l hD, upd_same, .nil, Nat.zero_le _⟩
theorem Ac.le {K : PySem.W.Frag} {B H1 H' : Hp} {D : Addr} {ds : List PyData} (a : Ac K B H1 D ds H') : Le B H' := let ⟨_, _, _, h2, h3, _⟩ := a.ex; h2.trans h3
theorem Ac.same {K : PySem.W.Frag} {B H1 H' : Hp} {D : Addr} {ds : List PyData} (a : Ac K B H1 D ds H') : Same H1 H' := let ⟨_, _, h1, _⟩ := a.ex; h1
theorem Ac.step {K : PySem.W.Frag} {B H1 H' H2 : Hp} {D : Addr} {ds : List PyData} (a : Ac K B H1 D ds H') (s : Same H' H2) : Ac K B H1 D ds H2 := by
  obtain ⟨B', acc, h1, h2, h3, h4, h5, h6, h7, h8⟩ := a.ex
  exact ⟨B', acc, h1.trans s, h2, h3.trans (le_of s), h4, h5, s _ _ h6, h7, h8⟩
theorem Ac.app {K : PySem.W.Frag} {B H1 H' H2 B2 : Hp} {D : Addr} {ds : List PyData} {v : V} {d : PyData} (a : Ac K B H1 D ds H') (hD : H1 D = none) (s : Stp B H' B2 H2) (p : Dp K B2 v d) (hl : ds.length < 100000) :
    ∃ acc, H2 D = some (.lst acc) ∧ acc.length < sizeLine ∧ Ac K B H1 D (ds ++ [d]) (upd H2 D (.lst (acc ++ [v]))) := by
  obtain ⟨B', acc, h1, h2, h3, h4, h5, h6, h7, h8⟩ := a.ex
  obtain ⟨B3, s3, l3⟩ := s.lift h2 h3
  have hn : B3 D = none := s3.non D h5 (by rw [h6]; simp)
  have hlen := dpa_len h7
  refine ⟨acc, s.same _ _ h6, Nat.lt_of_lt_of_le (by rw [hlen]; exact hl) (by decide : 100000 ≤ sizeLine), B3, acc ++ [v], fun x o hx => ?_, h2.trans s3.up, s3.lo.mut hn, fun x hx hy => s3.non x (h4 x hx hy) (same_some h1 hy), hn, upd_same, dpa_snoc (s3.up.dpAll h7) (l3.dp p), ?_⟩
  · rw [upd_ne (ne_of_none hx hD)]
    exact s.same _ _ (h1 _ _ hx)
  · rw [List.length_append, hlen]
    exact hl
/-- the end -/
theorem Ac.fin {K : PySem.W.Frag} {B H1 H' : Hp} {D : Addr} {ds : List PyData} (a : Ac K B H1 D ds H') (hD : H1 D = none) : ∃ B2, Stp B H1 B2 H' ∧ (Pd.dl K ds).p (.ref D) B2 := by
  obtain ⟨B', acc, h1, h2, h3, h4, h5, h6, h7, _⟩ := a.ex
  refine ⟨upd B' D (.lst acc), ⟨h1, h2.trans (Le.new h5), fun x o hx => ?_, fun x hx hy => ?_⟩, D, acc, rfl, upd_same, (Le.new h5).dpAll h7⟩
  · by_cases q : x = D
    · subst q
      rw [upd_same] at hx
      cases hx
      exact .inl h6
    · rw [upd_ne q] at hx
      exact h3 x o hx
  · rw [upd_ne (fun q => hy (by rw [q]; exact hD))]
    exact h4 x hx hy

section
variable {X : Cx} {elt iter tg : Expr} {ifs : List Expr} {scope : Scope} {own : List (Str × Nat)} {σ : L2.St} {H : Hp} {pos : Pos} {α : Type} {as : List α} {φ : α → PyData} {F : α → Bool} {G : α → PyData} {j : Nat}

/-- the readings of tests and elements that hold in every block -/
def tI (X : Cx) (scope : Scope) (ifs : List Expr) : TT := fun σ H Q => ∀ (s : Shared) (H0 : Hp) (C : Addr) (cl : List (Str × Addr)) (fp : List Addr), WI (Bk X scope s H0 C cl fp) ifs σ H Q
def tX (X : Cx) (scope : Scope) (e : Expr) : TE := fun σ H Q => ∀ (s : Shared) (H0 : Hp) (C : Addr) (cl : List (Str × Addr)) (fp : List Addr), WE (Bk X scope s H0 C cl fp) e σ H Q
theorem pts_tI : ∀ (s : Shared) (H : Hp) (C : Addr) (cl : List (Str × Addr)) (fp : List Addr), PTs (X.blk s H scope (compEnvC scope cl C X.env) fp) ifs (tI X scope ifs) := fun s H0 C cl fp => ⟨fun pins s1 σ H Q I h => (h s H0 C cl fp).run pins s1 I⟩
theorem pe_tX : ∀ (s : Shared) (H : Hp) (C : Addr) (cl : List (Str × Addr)) (fp : List Addr), PE (X.blk s H scope (compEnvC scope cl C X.env) fp) elt (tX X scope elt) := fun s H0 C cl fp => ⟨fun pins s1 σ H Q I h => (h s H0 C cl fp).run pins s1 I⟩
abbrev HT' (X : Cx) (scope : Scope) (ifs : List Expr) (σ : L2.St) (vs : List Nat) (j : Nat) (H : Hp) (as : List α) (φ : α → PyData) (F : α → Bool) : Prop :=
  ∀ a ∈ as, ∀ v B, Le H B → Dp X.K B v (φ a) → ∀ (s : Shared) (H0 : Hp) (C : Addr) (cl : List (Str × Addr)) (fp : List Addr), EvI (Bk X scope s H0 C cl fp) ifs ((wipe σ vs).set j (some v)) B (F a)
abbrev HE' (X : Cx) (scope : Scope) (elt : Expr) (σ : L2.St) (vs : List Nat) (j : Nat) (H : Hp) (as : List α) (φ : α → PyData) (F : α → Bool) (G : α → PyData) : Prop :=
  ∀ a ∈ as, F a = true → ∀ v B, Le H B → Dp X.K B v (φ a) → ∀ (s : Shared) (H0 : Hp) (C : Addr) (cl : List (Str × Addr)) (fp : List Addr), EvD (Bk X scope s H0 C cl fp) elt ((wipe σ vs).set j (some v)) B (G a)
def sofar (as : List α) (F : α → Bool) (G : α → PyData) (i : Nat) : List PyData := ((as.take i).filter F).map G
theorem sofar_len (i : Nat) : (sofar as F G i).length ≤ i := by
  unfold sofar
  rw [List.length_map]
  exact Nat.le_trans (List.length_filter_le _ _) (List.length_take_le _ _)
theorem sofar_succ {i : Nat} {a : α} (h : as[i]? = some a) : sofar as F G (i + 1) = if F a = true then sofar as F G i ++ [G a] else sofar as F G i := by
  unfold sofar
  rw [List.take_succ, h]
  cases hf : F a with
  | true => simp [hf]
  | false => simp [hf]
theorem sofar_all : sofar as F G as.length = (as.filter F).map G := by
  unfold sofar
  rw [List.take_length]
/-- one turn -/
theorem turn_ok {vs : List Nat} {B H1 H' : Hp} {D : Addr} {i : Nat} {a : α} {v : V} {B0 : Hp} (hD : H1 D = none) (lb : Le B0 B) (ha : as[i]? = some a) (hv : Dp X.K B v (φ a)) (ac : Ac X.K B H1 D (sofar as F G i) H') (hi : i < 100000)
    (ht : HT' X scope ifs σ vs j B0 as φ F) (he : HE' X scope elt σ vs j B0 as φ F G) :
    tI X scope ifs ((wipe σ vs).set j (some v)) H' fun b H3 => if b = true then tX X scope elt ((wipe σ vs).set j (some v)) H3 fun y H4 => ∃ acc, H4 D = some (.lst acc) ∧ acc.length < sizeLine ∧ Ac X.K B H1 D (sofar as F G (i + 1)) (upd H4 D (.lst (acc ++ [y]))) else Ac X.K B H1 D (sofar as F G (i + 1)) H3 := by
  have hm : a ∈ as := List.mem_of_getElem? ha
  intro s H0 C cl fp
  refine WI.mono (ht a hm v B lb hv s H0 C cl fp H' ac.le) fun b H3 ⟨e1, s1⟩ => ?_
  subst e1
  cases hf : F a with
  | true =>
    rw [if_pos rfl, sofar_succ ha, if_pos hf]
    intro s H0 C cl fp
    refine (he a hm hf v B lb hv s H0 C cl fp H3 (ac.step s1).le).mono fun y H4 ⟨B2, s2, p2⟩ => ?_
    exact (ac.step s1).app hD s2 p2 (Nat.lt_of_le_of_lt (sofar_len i) hi)
  | false =>
    rw [if_neg Bool.false_ne_true, sofar_succ ha, hf, if_neg Bool.false_ne_true]
    exact ac.step s1
theorem lc_read_list {vs : List Nat} (hi : EvD X iter σ H (.list (as.map φ))) (hj : j ∈ vs) (hl : as.length ≤ 100000) (ht : HT' X scope ifs σ vs j H as φ F) (he : HE' X scope elt σ vs j H as φ F G) : ∀ H1, Le H H1 → ∀ Q : VK,
    (∀ v B H2, Stp H H1 B H2 → (Pd.dl X.K ((as.filter F).map G)).p v B → Q v H2) → tLc (iList X.K (WE X iter)) (gName j) (tI X scope ifs) (tX X scope elt) vs σ H1 Q := fun H1 l Q q => (hi H1 l).mono fun v H2 ⟨B, s, p⟩ => by
  obtain ⟨a, xs, e1, h1, h2⟩ := dp_list p
  have hlen : xs.length = as.length := by rw [dpa_len h2, List.length_map]
  refine ⟨a, e1, ⟨xs, s.lo.sqL h1⟩, fun D hD => lc_it walk_list (fun i H' => Ac X.K B H2 D (sofar as F G i) H') (Ac.start s.lo hD) (fun i H' _ ac => ac.le.sqL h1) (fun i x H' H'' hi ac ⟨e2, hx⟩ => ?_) (fun H' ac => ?_)⟩
  · subst e2
    obtain ⟨d, hd, hp⟩ := dpa_get h2 hx
    rw [List.getElem?_map] at hd
    obtain ⟨y, hy, rfl⟩ := Option.map_eq_some_iff.mp hd
    exact ⟨wipe_set hj, turn_ok hD s.up hy hp ac (by omega) ht he⟩
  · rw [hlen, sofar_all] at ac
    obtain ⟨B2, s2, p2⟩ := ac.fin hD
    exact q _ B2 H' (s.trans s2) p2
theorem lc_read_tup {vs : List Nat} (hi : EvD X iter σ H (.tuple (as.map φ))) (hj : j ∈ vs) (hl : as.length ≤ 100000) (ht : HT' X scope ifs σ vs j H as φ F) (he : HE' X scope elt σ vs j H as φ F G) : ∀ H1, Le H H1 → ∀ Q : VK,
    (∀ v B H2, Stp H H1 B H2 → (Pd.dl X.K ((as.filter F).map G)).p v B → Q v H2) → tLc (iTup X.K (WE X iter)) (gName j) (tI X scope ifs) (tX X scope elt) vs σ H1 Q := fun H1 l Q q => (hi H1 l).mono fun v H2 ⟨B, s, p⟩ => by
  obtain ⟨a, xs, e1, h1, h2⟩ := dp_tuple p
  have hlen : xs.length = as.length := by rw [dpa_len h2, List.length_map]
  refine ⟨a, e1, ⟨xs, s.lo.sqT h1⟩, fun D hD => lc_it walk_tup (fun i H' => Ac X.K B H2 D (sofar as F G i) H') (Ac.start s.lo hD) (fun i H' _ ac => ac.le.sqT h1) (fun i x H' H'' hi ac ⟨e2, hx⟩ => ?_) (fun H' ac => ?_)⟩
  · subst e2
    obtain ⟨d, hd, hp⟩ := dpa_get h2 hx
    rw [List.getElem?_map] at hd
    obtain ⟨y, hy, rfl⟩ := Option.map_eq_some_iff.mp hd
    exact ⟨wipe_set hj, turn_ok hD s.up hy hp ac (by omega) ht he⟩
  · rw [hlen, sofar_all] at ac
    obtain ⟨B2, s2, p2⟩ := ac.fin hD
    exact q _ B2 H' (s.trans s2) p2
/-- over a locked dict's keys -/
theorem lc_read_keys {vs : List Nat} {d : Addr} {od : Obj} {kvs : List (Key × V)} {ss : List Str} {F : Str → Bool} {G : Str → PyData} (hi : Ev X iter σ H (.ref d)) (hk : kvs.map (·.1) = ss.map Sum.inr) (hj : j ∈ vs) (hl : ss.length ≤ 100000)
    (ht : HT' X scope ifs σ vs j H ss PyData.str F) (he : HE' X scope elt σ vs j H ss PyData.str F G) : ∀ H1, Le H H1 → H1 d = some (.frz od (.dK kvs)) → ∀ Q : VK,
    (∀ v B H2, Stp H H1 B H2 → (Pd.dl X.K ((ss.filter F).map G)).p v B → Q v H2) → tLc (iKeys (WE X iter)) (gName j) (tI X scope ifs) (tX X scope elt) vs σ H1 Q := fun H1 l hd Q q => (hi H1 l).mono fun v H2 ⟨B, s, (p : v = .ref d)⟩ => by
  have hlen : kvs.length = ss.length := by
    have e := congrArg List.length hk
    rw [List.length_map, List.length_map] at e
    exact e
  have hd2 := s.same _ _ hd
  refine ⟨d, od, p, .inl ⟨kvs, hd2, fun D hD => lc_it walk_keys (fun i H' => Ac X.K B H2 D (sofar ss F G i) H') (Ac.start s.lo hD) (fun i H' _ ac => ac.same _ _ hd2) (fun i x H' H'' hi ac ⟨e2, k, w, hx, ex⟩ => ?_) (fun H' ac => ?_)⟩⟩
  · subst e2 ex
    have h3 : (kvs.map (·.1))[i]? = some k := by rw [List.getElem?_map, hx]; rfl
    rw [hk, List.getElem?_map] at h3
    obtain ⟨y, hy, rfl⟩ := Option.map_eq_some_iff.mp h3
    exact ⟨wipe_set hj, turn_ok (φ := PyData.str) hD s.up hy (.str y) ac (by omega) ht he⟩
  · rw [hlen, sofar_all] at ac
    obtain ⟨B2, s2, p2⟩ := ac.fin hD
    exact q _ B2 H' (s.trans s2) p2

/-! ### as values -/
theorem el_lcL {x : Str} {px : Pos} (hi : EvD X iter σ H (.list (as.map φ))) (ht : HT' X scope ifs σ (own.map (·.2)) j H as φ F) (he : HE' X scope elt σ (own.map (·.2)) j H as φ F G) (hc : X.calm = true) (hN : X.N.Nodup) (ok : BlkOk X.N X.env.scope scope own)
    (hg : ∀ (s : Shared) (H : Hp) (C : Addr) (cl : List (Str × Addr)) (fp : List Addr), PG (X.blk s H scope (compEnvC scope cl C X.env) fp) tg (gName j)) (hj : j ∈ own.map (·.2)) (hl : as.length ≤ 100000) (hs : ∀ x, foldedSetIterable iter X.env x = pure x := by intro _; rfl) :
    EvL X (.ListComp elt [⟨tg, iter, ifs, 0⟩] scope pos) σ H ((as.filter F).map G) :=
  .of (pe_lc hc hN (pi_list pe_w) ok hg pts_tI pe_tX hs) fun H1 l => lc_read_list hi hj hl ht he H1 l _ fun v B H2 s p => ⟨B, s, p⟩
theorem el_lcT {x : Str} {px : Pos} (hi : EvD X iter σ H (.tuple (as.map φ))) (ht : HT' X scope ifs σ (own.map (·.2)) j H as φ F) (he : HE' X scope elt σ (own.map (·.2)) j H as φ F G) (hc : X.calm = true) (hN : X.N.Nodup) (ok : BlkOk X.N X.env.scope scope own)
    (hg : ∀ (s : Shared) (H : Hp) (C : Addr) (cl : List (Str × Addr)) (fp : List Addr), PG (X.blk s H scope (compEnvC scope cl C X.env) fp) tg (gName j)) (hj : j ∈ own.map (·.2)) (hl : as.length ≤ 100000) (hs : ∀ x, foldedSetIterable iter X.env x = pure x := by intro _; rfl) :
    EvL X (.ListComp elt [⟨tg, iter, ifs, 0⟩] scope pos) σ H ((as.filter F).map G) :=
  .of (pe_lc hc hN (pi_tup pe_w) ok hg pts_tI pe_tX hs) fun H1 l => lc_read_tup hi hj hl ht he H1 l _ fun v B H2 s p => ⟨B, s, p⟩
theorem stp_unlock {B H1 H2 B2 : Hp} {d : Addr} {od : Obj} {kvs : List (Key × V)} (h : H1 d = some (.dK kvs)) (s : Stp B (upd H1 d (.frz od (.dK kvs))) B2 H2) : H2 d = some (.frz od (.dK kvs)) ∧ Stp B H1 B2 (upd H2 d (.dK kvs)) := by
  have e := s.same d _ upd_same
  refine ⟨e, fun x o hx => ?_, s.up, s.lo.trans (Le.unlock (.inr ⟨od, e⟩)), fun x hx hy => s.non x hx ?_⟩
  · by_cases q : x = d
    · subst q
      rw [upd_same, ← h, hx]
    · rw [upd_ne q]
      exact s.same x o (by rw [upd_ne q]; exact hx)
  · by_cases q : x = d
    · subst q
      rw [upd_same]
      simp
    · rw [upd_ne q]
      exact hy
theorem el_lcK {d : Addr} {kvs : List (Key × V)} {ss : List Str} {F : Str → Bool} {G : Str → PyData} (hi : Ev X iter σ H (.ref d)) (hd : Rd H d (.dK kvs)) (hk : kvs.map (·.1) = ss.map Sum.inr)
    (ht : HT' X scope ifs σ (own.map (·.2)) j H ss PyData.str F) (he : HE' X scope elt σ (own.map (·.2)) j H ss PyData.str F G) (hc : X.calm = true) (hN : X.N.Nodup) (ok : BlkOk X.N X.env.scope scope own)
    (hg : ∀ (s : Shared) (H : Hp) (C : Addr) (cl : List (Str × Addr)) (fp : List Addr), PG (X.blk s H scope (compEnvC scope cl C X.env) fp) tg (gName j)) (hj : j ∈ own.map (·.2)) (hl : ss.length ≤ 100000) (hs : ∀ x, foldedSetIterable iter X.env x = pure x := by intro _; rfl) :
    EvL X (.ListComp elt [⟨tg, iter, ifs, 0⟩] scope pos) σ H ((ss.filter F).map G) := fun H1 l => by
  rcases l.dk hd with h1 | ⟨od, h1⟩
  · refine .of (pe_lock (pe_lc hc hN (pi_keys pe_w) ok hg pts_tI pe_tX hs)) ⟨d, _, h1, True.intro, fun od => ?_⟩
    refine lc_read_keys hi hk hj hl ht he _ (l.trans (Le.lock (.inl h1))) upd_same _ fun v B H2 s p => ?_
    obtain ⟨e, s2⟩ := stp_unlock h1 s
    exact ⟨e, B, s2, p⟩
  · exact .of (pe_lc hc hN (pi_keys pe_w) ok hg pts_tI pe_tX hs) (lc_read_keys hi hk hj hl ht he H1 l h1 _ fun v B H2 s p => ⟨B, s, p⟩)
end
end K57

set_option Elab.async false
set_option linter.all false
set_option maxRecDepth 100000
set_option maxHeartbeats 4000000
/-! ZE: statements; defs by their bodies. -/
namespace K57
open PySem PySem.Spec PyProof.Rows L2

section
variable {X : Cx} {e a b c o : Expr} {σ : L2.St} {B H H' : Hp} {P P1 P2 : Pd} {v w x y : V} {d d1 d2 : PyData} {ds ds1 ds2 : List PyData} {pos p2 : Pos} {rest body orelse : List Stmt} {D : Ends} {st : Stmt}
theorem WSs.mono {D' : Ends} (h : WSs X rest D σ H) (k1 : ∀ σ H, D.nx σ H → D'.nx σ H) (k2 : ∀ v H, D.rt v H → D'.rt v H) (k3 : ∀ σ H, D.bk σ H → D'.bk σ H) (k4 : ∀ σ H, D.ct σ H → D'.ct σ H) : WSs X rest D' σ H := ⟨fun pins s I => thn (h.run pins s I) fun f s' q => by
  cases f with
  | next => obtain ⟨σ', H', I', q⟩ := q; exact ⟨σ', H', I', k1 _ _ q⟩
  | brk => obtain ⟨σ', H', I', q⟩ := q; exact ⟨σ', H', I', k3 _ _ q⟩
  | cont => obtain ⟨σ', H', I', q⟩ := q; exact ⟨σ', H', I', k4 _ _ q⟩
  | ret u => obtain ⟨v, σ', H', I', r, q⟩ := q; exact ⟨v, σ', H', I', r, k2 _ _ q⟩⟩
theorem ws_cons {t : TS} (h : PS X st t) (q : t { D with nx := WSs X rest D } σ H) : WSs X (st :: rest) D σ H := .of (pss_cons h pss_w) q
theorem ws_nil (q : D.nx σ H) : WSs X [] D σ H := .of pss_nil q
theorem ws_use (h : EvP X e σ B P) (l : Le B H) {Q : VK} (k : ∀ v B' H', Stp B H B' H' → P.p v B' → Q v H') : WE X e σ H Q := (h H l).mono fun v H' ⟨B', s, p⟩ => k v B' H' s p
/-- name = e -/
theorem ws_set {i : Nat} {n : Str} {pos' : Pos} (h : EvP X e σ B P) (l : Le B H) (nd : X.N.Nodup) (k : ∀ v B' H', Stp B H B' H' → P.p v B' → WSs X rest D (σ.set i (some v)) H') (hi : X.N[i]? = some n := by rfl) (hx : Loc X.env.scope n := by first | exact Or.inl rfl | exact Or.inr rfl)
    (hs : swapsWith e (some (.Name n pos')) pos.line X.env = pure false := by rfl) (hf : X.fn n = true ∨ X.env.scope.names.lookup n = some .local := by first | exact .inl rfl | exact .inr rfl) : WSs X (.Assign [.Name n pos'] e pos :: rest) D σ H :=
  ws_cons (ps_set nd hi hx pe_w hs hf) (ws_use h l k)
theorem ws_expr (h : EvP X e σ B P) (l : Le B H) (k : ∀ v B' H', Stp B H B' H' → P.p v B' → WSs X rest D σ H') (hs : swapsWith e none pos.line X.env = pure false := by rfl) : WSs X (.Expr e pos :: rest) D σ H := ws_cons (ps_expr pe_w hs) (ws_use h l k)
theorem ws_ret (h : EvP X e σ B P) (l : Le B H) (k : ∀ v B' H', Stp B H B' H' → P.p v B' → D.rt v H') : WSs X (.Return (some e) pos :: rest) D σ H := ws_cons (ps_ret pe_w) (ws_use h l k)
theorem ws_retN (k : D.rt .non H) : WSs X (.Return none pos :: rest) D σ H := ws_cons ps_retN k
theorem ws_if {k : Bool} (h : EvT X c σ B k) (l : Le B H) (h1 : k = true → ∀ H', Same H H' → WSs X body { D with nx := WSs X rest D } σ H') (h2 : k = false → ∀ H', Same H H' → WSs X orelse { D with nx := WSs X rest D } σ H') : WSs X (.If c body orelse pos :: rest) D σ H :=
  ws_cons (ps_if pt_w pss_w pss_w) ((h H l).mono fun b' H' ⟨q, s⟩ => by
    subst q
    cases b' with
    | true =>
      rw [if_pos rfl]
      exact h1 rfl H' s
    | false =>
      rw [if_neg Bool.false_ne_true]
      exact h2 rfl H' s)
/-- an if whose branch is not gone -/
theorem ws_ifN (h : EvT X c σ B false) (l : Le B H) (h2 : ∀ H', Same H H' → WSs X rest D σ H') : WSs X (.If c body [] pos :: rest) D σ H := ws_if h l (fun q => nomatch q) fun _ H' s => ws_nil (h2 H' s)
theorem ws_ifY (h : EvT X c σ B true) (l : Le B H) (h1 : ∀ H', Same H H' → WSs X body { D with nx := WSs X rest D } σ H') : WSs X (.If c body orelse pos :: rest) D σ H := ws_if h l (fun _ => h1) fun q => nomatch q
/-- o.f = e, o at p -/
theorem ws_fld {p C dx : Addr} {fs : List (Str × V)} {f : Str} {pos' : Pos} (h : EvP X e σ B P) (l : Le B H) (ho : ∀ {H1}, Same H H1 → Ev X o σ H1 (.ref p)) (hp : H p = some (.ins C dx fs)) (hc : Cls X.K C) (n : NoAttr X.K C f) (hl : fs.length < 100)
    (k : ∀ v B' H', Stp B H B' H' → P.p v B' → H' p = some (.ins C dx fs) → WSs X rest D σ (upd H' p (.ins C dx (putF f v fs)))) (hs : swapsWith e (some (.Attribute o f pos')) pos.line X.env = pure false := by rfl) : WSs X (.Assign [.Attribute o f pos'] e pos :: rest) D σ H :=
  ws_cons (ps_fld pe_w pe_w hs) (ws_use h l fun v B' H' s q => (ho s.same H' (Le.refl H')).mono fun u H2 ⟨B2, s2, (q2 : u = .ref p)⟩ => by
    have e1 := s2.same _ _ (s.same _ _ hp)
    exact ⟨p, C, dx, fs, q2, e1, hc, n, Nat.lt_trans hl (by decide), k v B' H2 (s.trans (.keep s.lo s2.same)) q e1⟩)
/-- l.append(e), l a list at q -/
theorem ws_app {q : Addr} {xs : List V} {apos cp : Pos} (h : EvP X e σ B P) (l : Le B H) (ho : Ev X o σ B (.ref q)) (hq : H q = some (.lst xs)) (hz : xs.length < 100000) (k : ∀ v B' H', Stp B H B' H' → P.p v B' → H' q = some (.lst xs) → WSs X rest D σ (upd H' q (.lst (xs ++ [v]))))
    (hpe : PE X (.Call (.Attribute o "append" apos) [e] [] cp) (tBM X.K "list" rAppend (WE X o) (tCons (WE X e) tNil))) (hs : swapsWith (.Call (.Attribute o "append" apos) [e] [] cp) none pos.line X.env = pure false := by rfl) :
    WSs X (.Expr (.Call (.Attribute o "append" apos) [e] [] cp) pos :: rest) D σ H :=
  ws_cons (ps_expr hpe hs) ((ho H l).mono fun u H1 ⟨B1, s1, (p1 : u = .ref q)⟩ => by
    subst p1
    have e1 := s1.same _ _ hq
    refine ⟨.inl ⟨rfl, _, SqL.of e1⟩, ?_⟩
    refine (h H1 (l.trans (le_of s1.same))).mono fun v H2 ⟨B2, s2, p2⟩ => ?_
    have e2 := s2.same _ _ e1
    exact ⟨q, xs, v, rfl, rfl, e2, Nat.lt_of_lt_of_le hz (by decide : 100000 ≤ sizeLine), k v B2 H2 ((Stp.keep l s1.same).trans s2) p2 e2⟩)
/-- while -/
theorem ws_while (hp : PassesOwn (model X.prog X.w) X.A X.env X.xe) (W : Nat → L2.St → Hp → Prop) (m0 : Nat) (h0 : W m0 σ H)
    (hs : ∀ m σ' H', W m σ' H' → WT X c σ' H' fun b H1 => if b = true then WSs X body { D with nx := fun σ2 H2 => ∃ m', m' < m ∧ W m' σ2 H2, ct := fun σ2 H2 => ∃ m', m' < m ∧ W m' σ2 H2, bk := WSs X rest D } σ' H1 else WSs X rest D σ' H1) : WSs X (.While c body [] pos :: rest) D σ H :=
  ws_cons (ps_while hp pt_w pss_w) ⟨W, ⟨m0, h0⟩, fun m σ' H' w => (hs m σ' H' w).mono fun b H1 q => by
    cases b with
    | true =>
      rw [if_pos rfl] at q ⊢
      exact ⟨_, fun _ _ n => n, q⟩
    | false =>
      rw [if_neg Bool.false_ne_true] at q ⊢
      exact q⟩
/-- for over a list -/
theorem ws_forL {iter tg : Expr} {g : TG} (hp : PassesOwn (model X.prog X.w) X.A X.env X.xe) (hc : X.calm = true) (hg : PG X tg g) {as : List PyData} (h : EvD X iter σ B (.list as)) (l : Le B H) (Pv : Hp → Nat → L2.St → Hp → Prop)
    (h0 : ∀ B' H', Stp B H B' H' → Pv B' 0 σ H') (hl : ∀ B' i σ' H', Pv B' i σ' H' → Le B' H')
    (hs : ∀ B' i d v σ' H', Le B B' → as[i]? = some d → Dp X.K B' v d → Pv B' i σ' H' → g v σ' H' fun σ2 H2 => WSs X body { D with nx := Pv B' (i + 1), ct := Pv B' (i + 1), bk := WSs X rest D } σ2 H2)
    (hd : ∀ B' σ' H', Le B B' → Pv B' as.length σ' H' → WSs X rest D σ' H') (hf : ∀ x, foldedSetIterable iter X.env x = pure x := by intro _; rfl) : WSs X (.For tg iter body [] pos :: rest) D σ H :=
  ws_cons (ps_for hp hc (pi_list pe_w) hg pss_w hf) ((h H l).mono fun v H2 ⟨B1, s, p⟩ => by
    obtain ⟨q, xs, e1, h1, h2⟩ := dp_list p
    have hlen := dpa_len h2
    refine ⟨q, e1, ⟨xs, s.lo.sqL h1⟩, for_list (Pv B1) (h0 B1 H2 s) (fun i σ' H' _ pv => (hl B1 i σ' H' pv).sqL h1) (fun i x σ' H' hx pv => ?_) (fun σ' H' pv => ?_)⟩
    · obtain ⟨d, hd1, hp1⟩ := dpa_get h2 hx
      exact hs B1 i d x σ' H' s.up hd1 hp1 pv
    · rw [hlen] at pv
      exact hd B1 σ' H' s.up pv)
end

/-! ### a def by its body -/
section
variable {P : Program} {w : World} {K : PySem.W.Frag} {mg : Str → Option Value} {base : Heap} {x qual : Str} {params : Arguments} {body : List Stmt} {scope : Scope} {dvs : List V} {kws : List (Str × V)} {f : Addr} {fd : FuncData}
/-- the context of a body -/
abbrev Cb (P : Program) (w : World) (K : PySem.W.Frag) (mg : Str → Option Value) (base : Heap) (N : List Str) (qual : Str) (scope : Scope) (f : Addr) (cdv : Value) (A : Around) (outer : List Env) (s : Shared) (H : Hp) (E : XK) : Cx :=
  (cxOf CX0 P w K mg base N qual scope f cdv A outer s H E).nox
theorem fn_w {N ps : List Str} {k : Nat} {sp : Sp} (F : FunD K x qual params body scope dvs kws f fd) (S : FnScope N ps scope) (len : ∀ vs H Q E, sp vs H Q E → vs.length = ps.length)
    (hbody : ∀ (cdv : Value) (A : Around) (outer : List Env) (s : Shared) (H0 : Hp) (vs : List V) (H : Hp) (Q : VK) (E : XK), Room k (Cb P w K mg base N qual scope f cdv A outer s H0 E).A → sp vs H Q E →
      WSs (Cb P w K mg base N qual scope f cdv A outer s H0 E) body { nx := fun _ H' => Q .non H', rt := Q } (start N vs) H) : FnOk P w K mg base CX0 (k + 1) f fd ps sp :=
  F.ok S len fun cdv A outer s H vs Q E hr h => ⟨_, PSs.nox pss_w, hbody cdv A outer s H vs H Q E hr h⟩
/-- .. that changes nothing -/
theorem fn_pure {N ps : List Str} {k : Nat} {Ax : List V → Hp → Pd → Prop} (F : FunD K x qual params body scope dvs kws f fd) (S : FnScope N ps scope) (len : ∀ vs B R, Ax vs B R → vs.length = ps.length)
    (hbody : ∀ (cdv : Value) (A : Around) (outer : List Env) (s : Shared) (H0 : Hp) (E : XK) (vs : List V) (B H : Hp) (R : Pd) (D : Ends), Room k (Cb P w K mg base N qual scope f cdv A outer s H0 E).A → Le B H → Ax vs B R → (∀ v B' H', Stp B H B' H' → R.p v B' → D.rt v H') →
      (∀ σ' B' H', Stp B H B' H' → R.p .non B' → D.nx σ' H') → WSs (Cb P w K mg base N qual scope f cdv A outer s H0 E) body D (start N vs) H) : FnOk P w K mg base CX0 (k + 1) f fd ps (pureSp Ax) :=
  fn_w F S (fun vs H Q E ⟨B, R, _, h, _⟩ => len vs B R h) fun cdv A outer s H0 vs H Q E hr ⟨B, R, l, h, q⟩ =>
    hbody cdv A outer s H0 E vs B H R _ hr l h q fun σ' B' H' s p => q .non B' H' s p
end
end K57

set_option Elab.async false
set_option linter.all false
set_option maxRecDepth 100000
set_option maxHeartbeats 4000000
/-! ZR: own subscripts, stores, fields as targets. -/
namespace K57
open PySem PySem.Spec PyProof.Rows L2

section
variable {X : Cx} {a b o e : Expr} {ta tb te : TE} {pos : Pos} {σ : L2.St} {H : Hp}
/-- what a class must have that its instances may be subscripted -/
structure SubO (K : PySem.W.Frag) (C g : Addr) (m : Str) : Prop where
  at_ : PySem.W.findIn K (.ref C) m = some (some (.ref g))
  fn : PySem.W.isFn K (.ref g) = true
  fi : PySem.W.fnIn K g = true
  nq : PySem.W.noSeq K C = true
/-- the callee runs, one deeper -/
theorem run_in1 {k : Nat} {f : Addr} {fd : FuncData} {ps : List Str} {sp : Sp} {pins : List (Addr × Obj)} {s : Shared} {Q : VK} {us : List Value} {vs : List V} {E' : Value → Shared → Prop} (F : FnOk X.prog X.w X.K X.mg X.base CX0 k f fd ps sp) (hr : Room (k + 1) X.A) (hb : Binds X.K fd ps [])
    (I : Inv X pins σ H s) (r : Vals vs us) (h : sp vs H Q E0) : wpAny (model X.prog X.w) X.A.in1 (call (.ref f) us) (EP X pins σ Q) E' s := by
  have hl : (us ++ []).length = ps.length := by rw [List.append_nil, ← r.length]; exact F.len _ _ _ _ h
  have hb' := hb s us I.kIn hl
  rw [List.append_nil] at hb'
  refine wpAny_call (codeAny_mono (F.run X.A.in1 X.stack s H ⟨us, []⟩ us vs Q E0 hr.in1 I.env0.in1 hb' r h) fun r s' hq => ?_)
  cases r with
  | error e => exact False.elim hq
  | ok fl =>
    cases fl with
    | ret u => exact I.after hq
    | next => exact False.elim hq
    | brk => exact False.elim hq
    | cont => exact False.elim hq
theorem run_at {k : Nat} {f : Addr} {fd : FuncData} {ps : List Str} {sp : Sp} {pins : List (Addr × Obj)} {s : Shared} {Q : VK} {us : List Value} {vs : List V} {E' : Value → Shared → Prop} (F : FnOk X.prog X.w X.K X.mg X.base CX0 k f fd ps sp) (hr : Room k X.A) (hb : Binds X.K fd ps [])
    (I : Inv X pins σ H s) (r : Vals vs us) (h : sp vs H Q E0) : wpAny (model X.prog X.w) X.A (call (.ref f) us) (EP X pins σ Q) E' s := by
  have hl : (us ++ []).length = ps.length := by rw [List.append_nil, ← r.length]; exact F.len _ _ _ _ h
  have hb' := hb s us I.kIn hl
  rw [List.append_nil] at hb'
  refine wpAny_call (codeAny_mono (F.run X.A X.stack s H ⟨us, []⟩ us vs Q E0 hr I.env0 hb' r h) fun r s' hq => ?_)
  cases r with
  | error e => exact False.elim hq
  | ok fl =>
    cases fl with
    | ret u => exact I.after hq
    | next => exact False.elim hq
    | brk => exact False.elim hq
    | cont => exact False.elim hq
/-- o[i], o an instance with its own __getitem__ -/
def tOwn (C : Addr) (sp : Sp) (ta tb : TE) : TE := fun σ H Q => ta σ H fun x H1 => tb σ H1 fun y H2 => ∃ a dx fs, x = .ref a ∧ H2 a = some (.ins C dx fs) ∧ sp [x, y] H2 Q E0
theorem pe_own {k : Nat} {C g : Addr} {fd : FuncData} {ps : List Str} {sp : Sp} (c : SubO X.K C g "__getitem__") (F : FnOk X.prog X.w X.K X.mg X.base CX0 k g fd ps sp) (hr : Room (k + 1) X.A) (hb : Binds X.K fd ps [])
    (ha : PE X a ta) (hi : PE X b tb) (hsl : ∀ ov iv, subscripted b true ov iv = runValue (.builtin "lifetime.subscript" ⟨[ov, iv], []⟩) := by intro _ _; with_unfolding_all rfl) : PE X (.Subscript a b pos) (tOwn C sp ta tb) := by
  refine ⟨fun pins s σ H Q I h => Subscript_ ?_⟩
  refine thn (ha.run pins s σ H _ I h) fun u s1 ⟨x, H1, I1, rx, q1⟩ => thn (hi.run pins s1 σ H1 _ I1 q1) fun v s2 ⟨y, H2, I2, ry, q, dx, fs, e, hq, hs⟩ => ?_
  subst e
  obtain rfl : u = Value.ref q := rx
  obtain ⟨mA, O, _⟩ := ins_get I2.hok hq
  obtain ⟨od, J, _⟩ := O.look
  obtain ⟨m, F'⟩ := I2.fr
  exact PySem.W.sub_K F' I2.mod.kin J c.at_ c.fi c.fn (run_in1 (vs := [.ref q, y]) F hr hb I2 (.cons rfl (.cons ry .nil)) hs) (hsl _ _)
/-- o[i] = v, o an instance with its own __setitem__ -/
def rSetO (C : Addr) (sp : Sp) : TSet := fun o i v H Q => ∃ a dx fs, o = .ref a ∧ H a = some (.ins C dx fs) ∧ sp [o, i, v] H (fun _ H' => Q H') E0
theorem set_own {k : Nat} {C g : Addr} {fd : FuncData} {ps : List Str} {sp : Sp} (c : SubO X.K C g "__setitem__") (F : FnOk X.prog X.w X.K X.mg X.base CX0 k g fd ps sp) (hr : Room k X.A) (hb : Binds X.K fd ps []) : PSet X (rSetO C sp) := by
  intro pins s σ H o i v ov iv u Q I ro ri rv h
  obtain ⟨q, dx, fs, e, hq, hs⟩ := h
  subst e
  obtain rfl : ov = Value.ref q := ro
  obtain ⟨mA, O, _⟩ := ins_get I.hok hq
  obtain ⟨od, J, _⟩ := O.look
  obtain ⟨m, F'⟩ := I.fr
  refine PySem.W.ksp_setItem F' I.mod.kin J c.nq c.at_ c.fn (thn (run_at (vs := [.ref q, i, v]) F hr hb I (.cons rfl (.cons ri (.cons rv .nil))) hs) fun w s' ⟨x, H', I', _, k⟩ => ⟨H', I', k⟩)
/-- target o.f -/
def gFld (K : PySem.W.Frag) (to : TE) (f : Str) : TG := fun v σ H Q => to σ H fun x H1 => ∃ a C dx fs, x = .ref a ∧ H1 a = some (.ins C dx fs) ∧ Cls K C ∧ NoAttr K C f ∧ fs.length < 1000 ∧ Q σ (upd H1 a (.ins C dx (putF f v fs)))
theorem pg_fld {f : Str} (ho : PE X o ta) : PG X (.Attribute o f pos) (gFld X.K ta f) := by
  refine ⟨fun pins s σ H v u Q I r h => ?_⟩
  rw [PySem.assign_Attribute]
  refine wpAny_bind (wpAny_holding (thn (ho.run pins s σ H _ I h) fun ov s1 ⟨x, H1, I1, r1, q, C, dx, fs, e, hq, hc, n, hl, k⟩ => ?_))
  subst e
  obtain rfl : ov = Value.ref q := r1
  exact wpAny_bind (wpAny_standAt (wpAny_bind (wpAny_holding (setattr_ok I1 hq hc n hl r fun s' I' => wpAny_release ⟨σ, _, I', k⟩))))
end
end K57

set_option Elab.async false
set_option linter.all false
set_option maxRecDepth 100000
set_option maxHeartbeats 4000000
/-! ZP: the text by places, what is looked at behind the top. (printed by gen_zp.py) -/
namespace K57
open PySem PySem.Spec PyProof.Rows L2
def top (i : Nat) : Stmt := PySem.Challenge.pw_firstmade_k57_whole_nets_made_in_order.main.body.getD i (.Pass ⟨0, 0, 0, 0⟩)
abbrev s_is_whole : Stmt := top 14
abbrev s_is_number : Stmt := top 15
abbrev s_is_name : Stmt := top 16
abbrev s_is_needs : Stmt := top 19
abbrev s_is_same : Stmt := top 28
abbrev s_is_book : Stmt := top 34
abbrev s_look_at_book : Stmt := top 35
abbrev s_first_of_net : Stmt := top 47
abbrev s_look_at_setting : Stmt := top 54
abbrev s_is_fault : Stmt := top 60
abbrev s_first_state : Stmt := top 61
abbrev s_play_of : Stmt := top 62
abbrev s_deeds_of : Stmt := top 63
abbrev s_moves : Stmt := top 64
abbrev s_has_form : Stmt := top 66
abbrev s_is_possible : Stmt := top 67
abbrev s_step : Stmt := top 68
abbrev s_behind : Stmt := top 69
abbrev s_hand_of : Stmt := top 72
abbrev s__law_pool : Stmt := top 74
abbrev s__law_take : Stmt := top 75
abbrev s__law_one : Stmt := top 76
abbrev s__law_words_of : Stmt := top 77
abbrev s__law_choices : Stmt := top 79
abbrev s__law_needs : Stmt := top 80
abbrev s__law_wide_needs : Stmt := top 81
abbrev s__law_own : Stmt := top 82
abbrev s__law_book : Stmt := top 83
abbrev s__law_setting : Stmt := top 84
abbrev s__law_sorted : Stmt := top 85
abbrev s__law_alone : Stmt := top 86
abbrev s__law_reach : Stmt := top 87
abbrev s__law_right : Stmt := top 88
abbrev s_law : Stmt := top 89
abbrev s_Net_init : Stmt := inClass (top 20) 0
abbrev s_Net_names : Stmt := inClass (top 20) 1
abbrev s_Net_look_at_name : Stmt := inClass (top 20) 3
abbrev s_Net_getitem : Stmt := inClass (top 20) 4
abbrev s_Net_order : Stmt := inClass (top 20) 16
abbrev s_Net_lacks : Stmt := inClass (top 20) 17
abbrev s_NetBook_is_value : Stmt := inClass (top 33) 2
abbrev s_NetBook_twin : Stmt := inClass (top 33) 3
abbrev s_Book_first_wrong : Stmt := inClass (top 29) 3
abbrev s_Book_look_at_word : Stmt := inClass (top 29) 4
abbrev s_Book_getitem : Stmt := inClass (top 29) 8
abbrev s_Book_setitem : Stmt := inClass (top 29) 9
abbrev s_Book_init : Stmt := inClass (top 29) 0
abbrev s_NetPlay_init : Stmt := inClass (top 48) 0
abbrev s_NetPlay_state : Stmt := inClass (top 48) 1
abbrev s_NetPlay_owners : Stmt := inClass (top 48) 2
abbrev s_NetPlay_wanted_deeds : Stmt := inClass (top 48) 3
abbrev s_NetPlay_hand_deeds : Stmt := inClass (top 48) 4
abbrev s_NetPlay_goes_back : Stmt := inClass (top 48) 5
abbrev s_NetPlay_do : Stmt := inClass (top 48) 6
abbrev s_Setting_init : Stmt := inClass (top 53) 0
abbrev s_Bench_init : Stmt := inClass (top 71) 0
abbrev s_Bench_call : Stmt := inClass (top 71) 1
abbrev s_Bench_state : Stmt := inClass (top 71) 4
abbrev s_Bench_moves : Stmt := inClass (top 71) 5
abbrev s_Bench_getitem : Stmt := inClass (top 71) 12
abbrev s_NetBook_init : Stmt := inClass (top 33) 0
abbrev s_NetBook_way : Stmt := inClass (top 33) 1
abbrev s_Setting_hands : Stmt := inClass (top 53) 2
abbrev s_Bench_fault : Stmt := inClass (top 71) 7

/-! ### a part of the heap: what these names reach -/
def gNames : List Str := ["is_whole", "is_number", "is_name", "is_needs", "is_same", "is_book", "look_at_book", "first_of_net", "look_at_setting", "is_fault", "first_state", "play_of", "deeds_of", "moves_rules", "has_form", "is_possible", "step", "behind", "hand_of", "_law_pool", "_law_take", "_law_one", "_law_words_of", "_law_choices"]
def gNames2 : List Str := ["_law_needs", "_law_wide_needs", "_law_own", "_law_book", "_law_setting", "_law_sorted", "_law_alone", "_law_reach", "_law_right", "law", "FirstBook", "WakingBook", "LateBook", "NetBook", "Net", "NetPlay", "Setting", "Bench", "Book", "GUARDS", "FAULTS"]
def asZ (g : Addr → Option Obj) : List Addr :=
  let K0 := He.frG g [mainGlobals]
  let gs := (gNames ++ gNames2).map (He.ga K0)
  let ref := fun (a : Addr) => match g a with
    | some o => He.refsD o
    | none => []
  let cs := [He.ga K0 "Book", He.ga K0 "NetBook", He.ga K0 "Net", He.ga K0 "NetPlay", He.ga K0 "Setting", He.ga K0 "Bench", He.ga K0 "FirstBook", He.ga K0 "WakingBook", He.ga K0 "LateBook"]
  let c1 := (cs.flatMap ref).eraseDups
  let c2 := (c1.flatMap ref).eraseDups
  let c3 := (c2.flatMap ref).eraseDups
  let pr := [(He.ga K0 "NetBook", ("way" : Str)), (He.ga K0 "Setting", "hands"), (He.ga K0 "Bench", "fault")].map fun p => He.ma (He.frG g (cs ++ c1)) p.1 p.2
  mainGlobals :: cStatics :: (gs ++ gs.flatMap ref ++ c1 ++ c2 ++ c3 ++ (pr.flatMap ref).flatMap ref)

/-! ### a def wherever it stands -/
abbrev FnZ : Type := Option (Str × Str × Arguments × FuncBody × Scope × Addr × List Str × Addr)
def fnZ (K : PySem.W.Frag) (a : Addr) : FnZ := match K.lookup a with
  | some ⟨_, _, .func fd, _⟩ => some (fd.name, fd.qualname, fd.params, fd.body, fd.scope, fd.globals, fd.closure.map (·.1), fd.builtins)
  | _ => none
structure DefZ where
  at_ : PySem.W.Frag → Addr
  name : Str
  qual : Str
  st : Stmt
  dfl : List He.Dv := []
  kwd : List (Str × He.Dv) := []
  clo : List Str := []
def DefZ.val (d : DefZ) : FnZ := some (d.name, d.qual, defArgs d.st, .stmts (defBody d.st), defScope d.st, mainGlobals, d.clo, builtinsNs)
def DefZ.ok (K : PySem.W.Frag) (d : DefZ) : Bool := PySem.W.keepIn K (.ref (d.at_ K)) && (match K.lookup (d.at_ K) with
  | some ⟨_, _, .func fd, _⟩ => PySem.W.codeIn K fd.code d.qual && (He.dflB K fd.defaults (d.dfl.map (He.Dv.v K)) && He.kwdB K fd.kwdefaults (d.kwd.map fun q => (q.1, q.2.v K)))
  | _ => false)
/-- a def of the text, at an address -/
abbrev FdZ (K : PySem.W.Frag) (name qual : Str) (st : Stmt) (dvs : List V) (kws : List (Str × V)) (a : Addr) : Prop := ∃ fd, FunD K name qual (defArgs st) (defBody st) (defScope st) dvs kws a fd
theorem DefZ.funD {K : PySem.W.Frag} {d : DefZ} (e : fnZ K (d.at_ K) = d.val) (c : d.ok K = true) (hc : d.clo = []) : FdZ K d.name d.qual d.st (d.dfl.map (He.Dv.v K)) (d.kwd.map fun q => (q.1, q.2.v K)) (d.at_ K) := by
  obtain ⟨kp, c2⟩ := He.ba c
  unfold fnZ at e
  cases q : K.lookup (d.at_ K) with
  | none =>
    rw [q] at c2
    cases c2
  | some o =>
    obtain ⟨oc, od, dt, osl⟩ := o
    rw [q] at c2 e
    cases dt with
    | func fd =>
      obtain ⟨n1, n2, n3, n4, n5, n6, n7, n8, n9, n10, n11, n12, n13, n14, n15⟩ := fd
      have e2 : (some (n1, n2, n3, n4, n5, n6, n7.map (·.1), n15) : FnZ) = some (d.name, d.qual, defArgs d.st, .stmts (defBody d.st), defScope d.st, mainGlobals, d.clo, builtinsNs) := e
      rw [hc] at e2
      simp only [Option.some.injEq, Prod.mk.injEq, List.map_eq_nil_iff] at e2
      obtain ⟨h1, h2, h3, h4, h5, h6, h7, h8⟩ := e2
      subst h1 h2 h3 h4 h5 h6 h7 h8
      have c3 : (PySem.W.codeIn K n13 d.qual && (He.dflB K n8 (d.dfl.map (He.Dv.v K)) && He.kwdB K n9 (d.kwd.map fun q => (q.1, q.2.v K)))) = true := c2
      obtain ⟨k1, k2⟩ := He.ba c3
      obtain ⟨k3, k4⟩ := He.ba k2
      exact ⟨_, ⟨oc, od, n8, n9, n10, n11, n12, n13, n14, osl, rfl, q, k1, He.dflB_ok k3, He.kwdB_ok k4⟩, kp⟩
    | _ => cases c2
/-- the getter of the property at p -/
def prG (K : PySem.W.Frag) (p : Addr) : Addr := match PySem.W.recIn K p "property" with
  | some (.ref g :: _) => g
  | _ => 0

abbrev cNet (K : PySem.W.Frag) : Addr := He.ga K "Net"
abbrev cNetBook (K : PySem.W.Frag) : Addr := He.ga K "NetBook"
abbrev cNetPlay (K : PySem.W.Frag) : Addr := He.ga K "NetPlay"
abbrev cSetting (K : PySem.W.Frag) : Addr := He.ga K "Setting"
abbrev cBench (K : PySem.W.Frag) : Addr := He.ga K "Bench"
abbrev cBook (K : PySem.W.Frag) : Addr := He.ga K "Book"
abbrev cFirstBook (K : PySem.W.Frag) : Addr := He.ga K "FirstBook"
abbrev cWakingBook (K : PySem.W.Frag) : Addr := He.ga K "WakingBook"
abbrev cLateBook (K : PySem.W.Frag) : Addr := He.ga K "LateBook"
def fnz0 : List DefZ := [⟨fun K => He.ga K "is_whole", "is_whole", "is_whole", s_is_whole, [], [], []⟩,
  ⟨fun K => He.ga K "is_number", "is_number", "is_number", s_is_number, [], [], []⟩,
  ⟨fun K => He.ga K "is_name", "is_name", "is_name", s_is_name, [], [], []⟩,
  ⟨fun K => He.ga K "is_needs", "is_needs", "is_needs", s_is_needs, [], [], []⟩,
  ⟨fun K => He.ga K "is_same", "is_same", "is_same", s_is_same, [], [], []⟩,
  ⟨fun K => He.ga K "is_book", "is_book", "is_book", s_is_book, [], [], []⟩,
  ⟨fun K => He.ga K "look_at_book", "look_at_book", "look_at_book", s_look_at_book, [], [], []⟩,
  ⟨fun K => He.ga K "first_of_net", "first_of_net", "first_of_net", s_first_of_net, [], [], []⟩,
  ⟨fun K => He.ga K "look_at_setting", "look_at_setting", "look_at_setting", s_look_at_setting, [], [], []⟩,
  ⟨fun K => He.ga K "is_fault", "is_fault", "is_fault", s_is_fault, [], [], []⟩,
  ⟨fun K => He.ga K "first_state", "first_state", "first_state", s_first_state, [], [], []⟩,
  ⟨fun K => He.ga K "play_of", "play_of", "play_of", s_play_of, [], [], []⟩,
  ⟨fun K => He.ga K "deeds_of", "deeds_of", "deeds_of", s_deeds_of, [], [], []⟩,
  ⟨fun K => He.ga K "moves_rules", "moves", "moves", s_moves, [], [], []⟩,
  ⟨fun K => He.ga K "has_form", "has_form", "has_form", s_has_form, [], [], []⟩,
  ⟨fun K => He.ga K "is_possible", "is_possible", "is_possible", s_is_possible, [], [], []⟩]
def fnz1 : List DefZ := [⟨fun K => He.ga K "step", "step", "step", s_step, [], [], []⟩,
  ⟨fun K => He.ga K "behind", "behind", "behind", s_behind, [], [], []⟩,
  ⟨fun K => He.ga K "hand_of", "hand_of", "hand_of", s_hand_of, [], [], []⟩,
  ⟨fun K => He.ga K "_law_pool", "_law_pool", "_law_pool", s__law_pool, [], [], []⟩,
  ⟨fun K => He.ga K "_law_take", "_law_take", "_law_take", s__law_take, [], [], []⟩,
  ⟨fun K => He.ga K "_law_one", "_law_one", "_law_one", s__law_one, [], [], []⟩,
  ⟨fun K => He.ga K "_law_words_of", "_law_words_of", "_law_words_of", s__law_words_of, [], [], []⟩,
  ⟨fun K => He.ga K "_law_choices", "_law_choices", "_law_choices", s__law_choices, [], [], []⟩,
  ⟨fun K => He.ga K "_law_needs", "_law_needs", "_law_needs", s__law_needs, [], [], []⟩,
  ⟨fun K => He.ga K "_law_wide_needs", "_law_wide_needs", "_law_wide_needs", s__law_wide_needs, [], [], []⟩,
  ⟨fun K => He.ga K "_law_own", "_law_own", "_law_own", s__law_own, [], [], []⟩,
  ⟨fun K => He.ga K "_law_book", "_law_book", "_law_book", s__law_book, [], [], []⟩,
  ⟨fun K => He.ga K "_law_setting", "_law_setting", "_law_setting", s__law_setting, [], [], []⟩,
  ⟨fun K => He.ga K "_law_sorted", "_law_sorted", "_law_sorted", s__law_sorted, [], [], []⟩,
  ⟨fun K => He.ga K "_law_alone", "_law_alone", "_law_alone", s__law_alone, [], [], []⟩,
  ⟨fun K => He.ga K "_law_reach", "_law_reach", "_law_reach", s__law_reach, [], [], []⟩]
def fnz2 : List DefZ := [⟨fun K => He.ga K "_law_right", "_law_right", "_law_right", s__law_right, [], [], []⟩,
  ⟨fun K => He.ga K "law", "law", "law", s_law, [], [], []⟩,
  ⟨fun K => He.ma K (He.ga K "Net") "__init__", "__init__", "Net.__init__", s_Net_init, [], [], []⟩,
  ⟨fun K => He.ma K (He.ga K "Net") "names", "names", "Net.names", s_Net_names, [], [], []⟩,
  ⟨fun K => He.ma K (He.ga K "Net") "look_at_name", "look_at_name", "Net.look_at_name", s_Net_look_at_name, [], [], []⟩,
  ⟨fun K => He.ma K (He.ga K "Net") "__getitem__", "__getitem__", "Net.__getitem__", s_Net_getitem, [], [], []⟩,
  ⟨fun K => He.ma K (He.ga K "Net") "order", "order", "Net.order", s_Net_order, [], [], []⟩,
  ⟨fun K => He.ma K (He.ga K "Net") "lacks", "lacks", "Net.lacks", s_Net_lacks, [], [], []⟩,
  ⟨fun K => He.ma K (He.ga K "NetBook") "is_value", "is_value", "NetBook.is_value", s_NetBook_is_value, [], [], []⟩,
  ⟨fun K => He.ma K (He.ga K "NetBook") "twin", "twin", "NetBook.twin", s_NetBook_twin, [], [], []⟩,
  ⟨fun K => He.ma K (He.ga K "NetBook") "first_wrong", "first_wrong", "Book.first_wrong", s_Book_first_wrong, [], [], []⟩,
  ⟨fun K => He.ma K (He.ga K "NetBook") "look_at_word", "look_at_word", "Book.look_at_word", s_Book_look_at_word, [], [], []⟩,
  ⟨fun K => He.ma K (He.ga K "NetBook") "__getitem__", "__getitem__", "Book.__getitem__", s_Book_getitem, [], [], []⟩,
  ⟨fun K => He.ma K (He.ga K "NetBook") "__setitem__", "__setitem__", "Book.__setitem__", s_Book_setitem, [], [], []⟩,
  ⟨fun K => He.ma K (He.ga K "Book") "__init__", "__init__", "Book.__init__", s_Book_init, [], [], []⟩,
  ⟨fun K => He.ma K (He.ga K "NetPlay") "__init__", "__init__", "NetPlay.__init__", s_NetPlay_init, [], [], []⟩]
def fnz3 : List DefZ := [⟨fun K => He.ma K (He.ga K "NetPlay") "state", "state", "NetPlay.state", s_NetPlay_state, [], [], []⟩,
  ⟨fun K => He.ma K (He.ga K "NetPlay") "owners", "owners", "NetPlay.owners", s_NetPlay_owners, [], [], []⟩,
  ⟨fun K => He.ma K (He.ga K "NetPlay") "wanted_deeds", "wanted_deeds", "NetPlay.wanted_deeds", s_NetPlay_wanted_deeds, [], [], []⟩,
  ⟨fun K => He.ma K (He.ga K "NetPlay") "hand_deeds", "hand_deeds", "NetPlay.hand_deeds", s_NetPlay_hand_deeds, [], [], []⟩,
  ⟨fun K => He.ma K (He.ga K "NetPlay") "goes_back", "goes_back", "NetPlay.goes_back", s_NetPlay_goes_back, [], [], []⟩,
  ⟨fun K => He.ma K (He.ga K "NetPlay") "do", "do", "NetPlay.do", s_NetPlay_do, [], [], []⟩,
  ⟨fun K => He.ma K (He.ga K "Setting") "__init__", "__init__", "Setting.__init__", s_Setting_init, [.int 2], [("makes", .int 2), ("fails", .int 1)], []⟩,
  ⟨fun K => He.ma K (He.ga K "Bench") "__init__", "__init__", "Bench.__init__", s_Bench_init, [], [], []⟩,
  ⟨fun K => He.ma K (He.ga K "Bench") "__call__", "__call__", "Bench.__call__", s_Bench_call, [], [], []⟩,
  ⟨fun K => He.ma K (He.ga K "Bench") "state", "state", "Bench.state", s_Bench_state, [], [], []⟩,
  ⟨fun K => He.ma K (He.ga K "Bench") "moves", "moves", "Bench.moves", s_Bench_moves, [], [], []⟩,
  ⟨fun K => He.ma K (He.ga K "Bench") "__getitem__", "__getitem__", "Bench.__getitem__", s_Bench_getitem, [], [], []⟩,
  ⟨fun K => prG K (He.ma K (He.ga K "NetBook") "way"), "way", "NetBook.way", s_NetBook_way, [], [], []⟩,
  ⟨fun K => prG K (He.ma K (He.ga K "Setting") "hands"), "hands", "Setting.hands", s_Setting_hands, [], [], []⟩,
  ⟨fun K => prG K (He.ma K (He.ga K "Bench") "fault"), "fault", "Bench.fault", s_Bench_fault, [], [], []⟩]
def dInit : DefZ := ⟨fun K => He.ma K (He.ga K "NetBook") "__init__", "__init__", "NetBook.__init__", s_NetBook_init, [], [("guard", .str "own")], ["__class__"]⟩
def fa0 : List He.Fa := [.glo "is_whole", .glo "is_number", .glo "is_name", .glo "is_needs", .glo "is_same", .glo "is_book", .glo "look_at_book", .glo "first_of_net", .glo "look_at_setting", .glo "is_fault", .glo "first_state", .glo "play_of", .glo "deeds_of", .glo "moves_rules", .glo "has_form", .glo "is_possible", .glo "step", .glo "behind", .glo "hand_of", .glo "_law_pool", .glo "_law_take", .glo "_law_one", .glo "_law_words_of", .glo "_law_choices"]
def fa1 : List He.Fa := [.glo "_law_needs", .glo "_law_wide_needs", .glo "_law_own", .glo "_law_book", .glo "_law_setting", .glo "_law_sorted", .glo "_law_alone", .glo "_law_reach", .glo "_law_right", .glo "law", .glo "FirstBook", .glo "WakingBook", .glo "LateBook", .glo "NetBook", .glo "Net", .glo "NetPlay", .glo "Setting", .glo "Bench", .glo "Book", .glo "GUARDS", .glo "FAULTS", .free "len", .free "isinstance", .free "sorted"]
def fa2 : List He.Fa := [.free "str", .free "int", .free "list", .free "tuple", .free "dict", .free "set", .free "range", .free "enumerate", .free "sum", .free "max", .free "min", .free "super", .free "bool", .int "MOST_VALUES" 5, .int "MOST_LETTERS" 8, .int "MOST_HANDS" 4, .int "MOST_MAKES" 6, .int "MOST_FAILS" 4, .str "LETTERS" "abcdefghijklmnopqrstuvwxyz", .cls "Net", .cls "NetBook", .cls "NetPlay", .cls "Setting", .cls "Bench"]
def fa3 : List He.Fa := [.noat "Net" "rows", .noat "NetBook" "order_of_words", .noat "NetBook" "own", .noat "NetPlay" "net", .noat "NetPlay" "is_one", .noat "NetPlay" "lock", .noat "NetPlay" "there", .noat "NetPlay" "people", .noat "NetPlay" "bad", .noat "Setting" "base", .noat "Setting" "numbers", .noat "Bench" "setting", .noat "Bench" "done", .noat "Bench" "states", .meth "Net" "__init__", .meth "Net" "names", .meth "Net" "look_at_name", .meth "Net" "__getitem__", .meth "Net" "order", .meth "Net" "lacks", .meth "NetBook" "is_value", .meth "NetBook" "twin", .meth "NetBook" "first_wrong", .meth "NetBook" "look_at_word"]
def fa4 : List He.Fa := [.meth "NetBook" "__getitem__", .meth "NetBook" "__setitem__", .meth "Book" "__init__", .meth "NetPlay" "__init__", .meth "NetPlay" "state", .meth "NetPlay" "owners", .meth "NetPlay" "wanted_deeds", .meth "NetPlay" "hand_deeds", .meth "NetPlay" "goes_back", .meth "NetPlay" "do", .meth "Setting" "__init__", .meth "Bench" "__init__", .meth "Bench" "__call__", .meth "Bench" "state", .meth "Bench" "moves", .meth "Bench" "__getitem__", .mkr "Net", .mkr "NetBook", .mkr "NetPlay", .mkr "Setting", .mkr "Bench"]
def insB (K : PySem.W.Frag) (C : Addr) : Bool := decide (PySem.W.findIn K (.ref C) "__class__" = some (some (.builtin "object.__class__"))) && (decide (PySem.W.specialIn K (.builtin "object.__class__") "__get__" = some (some (.builtin "getset_descriptor.__get__"))) &&
  (decide (PySem.W.takesIn K (.builtin "object.__class__") = some true) && decide (PySem.W.mroIn K C (.type "object") = some true)))
def subB (K : PySem.W.Frag) (C : Addr) (m : Str) : Bool := He.eqO (PySem.W.findIn K (.ref C) m) (some (some (.ref (He.ma K C m)))) && (PySem.W.isFn K (.ref (He.ma K C m)) && (PySem.W.fnIn K (He.ma K C m) && PySem.W.noSeq K C))
def propB (K : PySem.W.Frag) (C : Addr) (f : Str) : Bool := He.eqO (PySem.W.findIn K (.ref C) f) (some (some (.ref (He.ma K C f)))) && (He.eqO (PySem.W.specialIn K (.ref (He.ma K C f)) "__get__") (some (some (.builtin "property.__get__"))) &&
  (decide (PySem.W.takesIn K (.ref (He.ma K C f)) = some true) && (match PySem.W.recIn K (He.ma K C f) "property" with
    | some (.ref _ :: _) => true
    | _ => false)))
/-- NetBook.__init__: its cell, its code's file, Book.__init__ behind it -/
def superB (K : PySem.W.Frag) : Bool := (match K.lookup (He.ma K (He.ga K "NetBook") "__init__") with
  | some ⟨_, _, .func fd, _⟩ => (match fd.closure, fd.code with
    | [(_, cc)], .ref cda => (match K.lookup cc, K.lookup cda with
      | some ⟨_, _, .cell (some (.ref D)), _⟩, some ⟨_, _, .fields vs, _⟩ => decide (D = He.ga K "NetBook") && (match (vs : Array Value).toList[2]? with
        | some (Value.str file _) => (PySem.Challenge.pw_firstmade_k57_whole_nets_made_in_order.main.file : Str) == file
        | _ => false)
      | _, _ => false)
    | _, _ => false)
  | _ => false) && ((PySem.W.clsIn K (He.ga K "NetBook")).isSome && (decide (PySem.W.mroIn K (He.ga K "NetBook") (.ref (He.ga K "NetBook")) = some true) && (He.eqO (PySem.W.nsIn K cStatics "thirdparty.any") (some none) &&
    (He.eqO (PySem.W.ks_superIn K (He.ga K "NetBook") (He.ga K "NetBook") "__init__") (some (some (.ref (He.ma K (He.ga K "Book") "__init__")))) && decide (PySem.W.typeIn K (.ref (He.ma K (He.ga K "Book") "__init__")) = some (.type "function"))))))
def ex0 (K : PySem.W.Frag) : Bool := He.tupB K "GUARDS" [.str "own", .str "one"]
def ex1 (K : PySem.W.Frag) : Bool := He.tupB K "FAULTS" [.str "half", .str "twice", .str "itself"]
def ex2 (K : PySem.W.Frag) : Bool := decide (PySem.W.kitOne K (.ref (He.ga K "Net")) (.ref (He.ga K "Net")) = some true)
def ex3 (K : PySem.W.Frag) : Bool := decide (PySem.W.kitOne K (.ref (He.ga K "Setting")) (.ref (He.ga K "Setting")) = some true)
def ex4 (K : PySem.W.Frag) : Bool := decide (PySem.W.kitAny K (.ref (He.ga K "NetBook")) [.ref (He.ga K "FirstBook"), .ref (He.ga K "WakingBook"), .ref (He.ga K "LateBook"), .ref (He.ga K "NetBook")] = some true)
def ex5 (K : PySem.W.Frag) : Bool := insB K (He.ga K "Net")
def ex6 (K : PySem.W.Frag) : Bool := insB K (He.ga K "NetBook")
def ex7 (K : PySem.W.Frag) : Bool := insB K (He.ga K "Setting")
def ex8 (K : PySem.W.Frag) : Bool := subB K (He.ga K "Net") "__getitem__"
def ex9 (K : PySem.W.Frag) : Bool := subB K (He.ga K "NetBook") "__getitem__"
def ex10 (K : PySem.W.Frag) : Bool := subB K (He.ga K "NetBook") "__setitem__"
def ex11 (K : PySem.W.Frag) : Bool := subB K (He.ga K "Bench") "__getitem__"
def ex12 (K : PySem.W.Frag) : Bool := subB K (He.ga K "Bench") "__call__"
def ex13 (K : PySem.W.Frag) : Bool := propB K (He.ga K "NetBook") "way"
def ex14 (K : PySem.W.Frag) : Bool := propB K (He.ga K "Setting") "hands"
def ex15 (K : PySem.W.Frag) : Bool := propB K (He.ga K "Bench") "fault"
def ex16 (K : PySem.W.Frag) : Bool := superB K
def exAll (K : PySem.W.Frag) : Bool := ex0 K && (ex1 K && (ex2 K && (ex3 K && (ex4 K && (ex5 K && (ex6 K && (ex7 K && (ex8 K && (ex9 K && (ex10 K && (ex11 K && (ex12 K && (ex13 K && (ex14 K && (ex15 K && (ex16 K))))))))))))))))
def faAll (K : PySem.W.Frag) : Bool := (fa0.all fun f => f.ok K) && ((fa1.all fun f => f.ok K) && ((fa2.all fun f => f.ok K) && ((fa3.all fun f => f.ok K) && ((fa4.all fun f => f.ok K)))))
def fnAll (K : PySem.W.Frag) : Bool := (fnz0.all fun d => d.ok K) && ((fnz1.all fun d => d.ok K) && ((fnz2.all fun d => d.ok K) && ((fnz3.all fun d => d.ok K))))
abbrev AlZ : Type := Bool × (List FnZ × FnZ)
def fnsZ : List DefZ := fnz0 ++ (fnz1 ++ (fnz2 ++ (fnz3)))
def obsZ (K : PySem.W.Frag) : AlZ := (faAll K && (exAll K && (fnAll K && dInit.ok K)), (fnsZ.map fun d => fnZ K (d.at_ K), fnZ K (dInit.at_ K)))
def valZ : AlZ := (true, (fnsZ.map DefZ.val, dInit.val))
def SaysZ (K : PySem.W.Frag) : Prop := obsZ K = valZ
def obsZG (g : Addr → Option Obj) : AlZ := obsZ (He.frG g (asZ g))
def hookZ : PySem.W.Hook where
  α := AlZ
  obs := fun s => obsZG s.heap.get?
  val := fun _ => valZ
  says := fun _ h => ∃ K : PySem.W.Frag, K.In h ∧ SaysZ K
  of := fun _ _ e => ⟨_, He.frG_in, e⟩
  keeps := fun _ _ _ ⟨K, hK, c⟩ k => ⟨K, PySem.W.Frag.In.keeps hK k, c⟩
theorem obsZG_eq {g : Addr → Option Obj} {s : Shared} (h : ∀ a, g a = s.heap.get? a) : obsZG g = hookZ.obs s := by
  have e : g = s.heap.get? := funext h
  rw [e] <;> rfl
/-! ### the facts, by names -/
theorem fa_all {K : PySem.W.Frag} (c : SaysZ K) : faAll K = true := (He.ba (congrArg (fun z : AlZ => z.1) c)).1
theorem ex_all {K : PySem.W.Frag} (c : SaysZ K) : exAll K = true := (He.ba (He.ba (congrArg (fun z : AlZ => z.1) c)).2).1
theorem fn_all {K : PySem.W.Frag} (c : SaysZ K) : fnAll K = true := (He.ba (He.ba (He.ba (congrArg (fun z : AlZ => z.1) c)).2).2).1
theorem init_ok {K : PySem.W.Frag} (c : SaysZ K) : dInit.ok K = true := (He.ba (He.ba (He.ba (congrArg (fun z : AlZ => z.1) c)).2).2).2
theorem init_fn {K : PySem.W.Frag} (c : SaysZ K) : fnZ K (dInit.at_ K) = dInit.val := congrArg (fun z : AlZ => z.2.2) c
theorem def_at {K : PySem.W.Frag} (c : SaysZ K) (i : Nat) {d : DefZ} (h : fnsZ[i]? = some d := by rfl) : fnZ K (d.at_ K) = d.val := by
  have e : fnsZ.map (fun d => fnZ K (d.at_ K)) = fnsZ.map DefZ.val := congrArg (fun z : AlZ => z.2.1) c
  have e2 : (fnsZ.map fun d => fnZ K (d.at_ K))[i]? = (fnsZ.map DefZ.val)[i]? := by rw [e]
  rw [List.getElem?_map, List.getElem?_map, h] at e2
  exact Option.some.inj e2
theorem all_at {α : Type} {l : List α} {p : α → Bool} (h : l.all p = true) (i : Nat) {a : α} (e : l[i]? = some a := by rfl) : p a = true := List.all_eq_true.mp h a (List.mem_of_getElem? e)
theorem fa_c0 {K : PySem.W.Frag} (c : SaysZ K) : (fa0.all fun f => f.ok K) = true := (He.ba (fa_all c)).1
theorem fa_c1 {K : PySem.W.Frag} (c : SaysZ K) : (fa1.all fun f => f.ok K) = true := (He.ba (He.ba (fa_all c)).2).1
theorem fa_c2 {K : PySem.W.Frag} (c : SaysZ K) : (fa2.all fun f => f.ok K) = true := (He.ba (He.ba (He.ba (fa_all c)).2).2).1
theorem fa_c3 {K : PySem.W.Frag} (c : SaysZ K) : (fa3.all fun f => f.ok K) = true := (He.ba (He.ba (He.ba (He.ba (fa_all c)).2).2).2).1
theorem fa_c4 {K : PySem.W.Frag} (c : SaysZ K) : (fa4.all fun f => f.ok K) = true := (He.ba (He.ba (He.ba (He.ba (fa_all c)).2).2).2).2
theorem fn_c0 {K : PySem.W.Frag} (c : SaysZ K) : (fnz0.all fun d => d.ok K) = true := (He.ba (fn_all c)).1
theorem fn_c1 {K : PySem.W.Frag} (c : SaysZ K) : (fnz1.all fun d => d.ok K) = true := (He.ba (He.ba (fn_all c)).2).1
theorem fn_c2 {K : PySem.W.Frag} (c : SaysZ K) : (fnz2.all fun d => d.ok K) = true := (He.ba (He.ba (He.ba (fn_all c)).2).2).1
theorem fn_c3 {K : PySem.W.Frag} (c : SaysZ K) : (fnz3.all fun d => d.ok K) = true := (He.ba (He.ba (He.ba (fn_all c)).2).2).2
theorem ex_c0 {K : PySem.W.Frag} (c : SaysZ K) : ex0 K = true := (He.ba (ex_all c)).1
theorem ex_c1 {K : PySem.W.Frag} (c : SaysZ K) : ex1 K = true := (He.ba (He.ba (ex_all c)).2).1
theorem ex_c2 {K : PySem.W.Frag} (c : SaysZ K) : ex2 K = true := (He.ba (He.ba (He.ba (ex_all c)).2).2).1
theorem ex_c3 {K : PySem.W.Frag} (c : SaysZ K) : ex3 K = true := (He.ba (He.ba (He.ba (He.ba (ex_all c)).2).2).2).1
theorem ex_c4 {K : PySem.W.Frag} (c : SaysZ K) : ex4 K = true := (He.ba (He.ba (He.ba (He.ba (He.ba (ex_all c)).2).2).2).2).1
theorem ex_c5 {K : PySem.W.Frag} (c : SaysZ K) : ex5 K = true := (He.ba (He.ba (He.ba (He.ba (He.ba (He.ba (ex_all c)).2).2).2).2).2).1
theorem ex_c6 {K : PySem.W.Frag} (c : SaysZ K) : ex6 K = true := (He.ba (He.ba (He.ba (He.ba (He.ba (He.ba (He.ba (ex_all c)).2).2).2).2).2).2).1
theorem ex_c7 {K : PySem.W.Frag} (c : SaysZ K) : ex7 K = true := (He.ba (He.ba (He.ba (He.ba (He.ba (He.ba (He.ba (He.ba (ex_all c)).2).2).2).2).2).2).2).1
theorem ex_c8 {K : PySem.W.Frag} (c : SaysZ K) : ex8 K = true := (He.ba (He.ba (He.ba (He.ba (He.ba (He.ba (He.ba (He.ba (He.ba (ex_all c)).2).2).2).2).2).2).2).2).1
theorem ex_c9 {K : PySem.W.Frag} (c : SaysZ K) : ex9 K = true := (He.ba (He.ba (He.ba (He.ba (He.ba (He.ba (He.ba (He.ba (He.ba (He.ba (ex_all c)).2).2).2).2).2).2).2).2).2).1
theorem ex_c10 {K : PySem.W.Frag} (c : SaysZ K) : ex10 K = true := (He.ba (He.ba (He.ba (He.ba (He.ba (He.ba (He.ba (He.ba (He.ba (He.ba (He.ba (ex_all c)).2).2).2).2).2).2).2).2).2).2).1
theorem ex_c11 {K : PySem.W.Frag} (c : SaysZ K) : ex11 K = true := (He.ba (He.ba (He.ba (He.ba (He.ba (He.ba (He.ba (He.ba (He.ba (He.ba (He.ba (He.ba (ex_all c)).2).2).2).2).2).2).2).2).2).2).2).1
theorem ex_c12 {K : PySem.W.Frag} (c : SaysZ K) : ex12 K = true := (He.ba (He.ba (He.ba (He.ba (He.ba (He.ba (He.ba (He.ba (He.ba (He.ba (He.ba (He.ba (He.ba (ex_all c)).2).2).2).2).2).2).2).2).2).2).2).2).1
theorem ex_c13 {K : PySem.W.Frag} (c : SaysZ K) : ex13 K = true := (He.ba (He.ba (He.ba (He.ba (He.ba (He.ba (He.ba (He.ba (He.ba (He.ba (He.ba (He.ba (He.ba (He.ba (ex_all c)).2).2).2).2).2).2).2).2).2).2).2).2).2).1
theorem ex_c14 {K : PySem.W.Frag} (c : SaysZ K) : ex14 K = true := (He.ba (He.ba (He.ba (He.ba (He.ba (He.ba (He.ba (He.ba (He.ba (He.ba (He.ba (He.ba (He.ba (He.ba (He.ba (ex_all c)).2).2).2).2).2).2).2).2).2).2).2).2).2).2).1
theorem ex_c15 {K : PySem.W.Frag} (c : SaysZ K) : ex15 K = true := (He.ba (He.ba (He.ba (He.ba (He.ba (He.ba (He.ba (He.ba (He.ba (He.ba (He.ba (He.ba (He.ba (He.ba (He.ba (He.ba (ex_all c)).2).2).2).2).2).2).2).2).2).2).2).2).2).2).2).1
theorem ex_c16 {K : PySem.W.Frag} (c : SaysZ K) : ex16 K = true := (He.ba (He.ba (He.ba (He.ba (He.ba (He.ba (He.ba (He.ba (He.ba (He.ba (He.ba (He.ba (He.ba (He.ba (He.ba (He.ba (ex_all c)).2).2).2).2).2).2).2).2).2).2).2).2).2).2).2).2
/-- what the defs' bodies ask of what stands behind the top -/
structure Tx (P : Program) (K : PySem.W.Frag) (mg : Str → Option Value) : Prop where
  says : SaysZ K
  prg : P = PySem.Challenge.pw_firstmade_k57_whole_nets_made_in_order
  g_is_whole : mg "is_whole" = some (.ref (He.ga K "is_whole"))
  g_is_number : mg "is_number" = some (.ref (He.ga K "is_number"))
  g_is_name : mg "is_name" = some (.ref (He.ga K "is_name"))
  g_is_needs : mg "is_needs" = some (.ref (He.ga K "is_needs"))
  g_is_same : mg "is_same" = some (.ref (He.ga K "is_same"))
  g_is_book : mg "is_book" = some (.ref (He.ga K "is_book"))
  g_look_at_book : mg "look_at_book" = some (.ref (He.ga K "look_at_book"))
  g_first_of_net : mg "first_of_net" = some (.ref (He.ga K "first_of_net"))
  g_look_at_setting : mg "look_at_setting" = some (.ref (He.ga K "look_at_setting"))
  g_is_fault : mg "is_fault" = some (.ref (He.ga K "is_fault"))
  g_first_state : mg "first_state" = some (.ref (He.ga K "first_state"))
  g_play_of : mg "play_of" = some (.ref (He.ga K "play_of"))
  g_deeds_of : mg "deeds_of" = some (.ref (He.ga K "deeds_of"))
  g_moves_rules : mg "moves_rules" = some (.ref (He.ga K "moves_rules"))
  g_has_form : mg "has_form" = some (.ref (He.ga K "has_form"))
  g_is_possible : mg "is_possible" = some (.ref (He.ga K "is_possible"))
  g_step : mg "step" = some (.ref (He.ga K "step"))
  g_behind : mg "behind" = some (.ref (He.ga K "behind"))
  g_hand_of : mg "hand_of" = some (.ref (He.ga K "hand_of"))
  g__law_pool : mg "_law_pool" = some (.ref (He.ga K "_law_pool"))
  g__law_take : mg "_law_take" = some (.ref (He.ga K "_law_take"))
  g__law_one : mg "_law_one" = some (.ref (He.ga K "_law_one"))
  g__law_words_of : mg "_law_words_of" = some (.ref (He.ga K "_law_words_of"))
  g__law_choices : mg "_law_choices" = some (.ref (He.ga K "_law_choices"))
  g__law_needs : mg "_law_needs" = some (.ref (He.ga K "_law_needs"))
  g__law_wide_needs : mg "_law_wide_needs" = some (.ref (He.ga K "_law_wide_needs"))
  g__law_own : mg "_law_own" = some (.ref (He.ga K "_law_own"))
  g__law_book : mg "_law_book" = some (.ref (He.ga K "_law_book"))
  g__law_setting : mg "_law_setting" = some (.ref (He.ga K "_law_setting"))
  g__law_sorted : mg "_law_sorted" = some (.ref (He.ga K "_law_sorted"))
  g__law_alone : mg "_law_alone" = some (.ref (He.ga K "_law_alone"))
  g__law_reach : mg "_law_reach" = some (.ref (He.ga K "_law_reach"))
  g__law_right : mg "_law_right" = some (.ref (He.ga K "_law_right"))
  g_law : mg "law" = some (.ref (He.ga K "law"))
  g_FirstBook : mg "FirstBook" = some (.ref (He.ga K "FirstBook"))
  g_WakingBook : mg "WakingBook" = some (.ref (He.ga K "WakingBook"))
  g_LateBook : mg "LateBook" = some (.ref (He.ga K "LateBook"))
  g_NetBook : mg "NetBook" = some (.ref (He.ga K "NetBook"))
  g_Net : mg "Net" = some (.ref (He.ga K "Net"))
  g_NetPlay : mg "NetPlay" = some (.ref (He.ga K "NetPlay"))
  g_Setting : mg "Setting" = some (.ref (He.ga K "Setting"))
  g_Bench : mg "Bench" = some (.ref (He.ga K "Bench"))
  g_Book : mg "Book" = some (.ref (He.ga K "Book"))
  g_GUARDS : mg "GUARDS" = some (.ref (He.ga K "GUARDS"))
  g_FAULTS : mg "FAULTS" = some (.ref (He.ga K "FAULTS"))
  f_len : mg "len" = none
  f_isinstance : mg "isinstance" = none
  f_sorted : mg "sorted" = none
  f_str : mg "str" = none
  f_int : mg "int" = none
  f_list : mg "list" = none
  f_tuple : mg "tuple" = none
  f_dict : mg "dict" = none
  f_set : mg "set" = none
  f_range : mg "range" = none
  f_enumerate : mg "enumerate" = none
  f_sum : mg "sum" = none
  f_max : mg "max" = none
  f_min : mg "min" = none
  f_super : mg "super" = none
  f_bool : mg "bool" = none
  i_MOST_VALUES : ∃ t, mg "MOST_VALUES" = some (.int 5 t)
  i_MOST_LETTERS : ∃ t, mg "MOST_LETTERS" = some (.int 8 t)
  i_MOST_HANDS : ∃ t, mg "MOST_HANDS" = some (.int 4 t)
  i_MOST_MAKES : ∃ t, mg "MOST_MAKES" = some (.int 6 t)
  i_MOST_FAILS : ∃ t, mg "MOST_FAILS" = some (.int 4 t)
  s_LETTERS : ∃ t, mg "LETTERS" = some (.str "abcdefghijklmnopqrstuvwxyz" t)
theorem tx_of {K : PySem.W.Frag} {h : Heap} {mg : Str → Option Value} (X : K.In h) (G : h.Ns mainGlobals mg) (c : SaysZ K) : Tx PySem.Challenge.pw_firstmade_k57_whole_nets_made_in_order K mg :=
  ⟨c, rfl,
    He.glo_ok X G (all_at (fa_c0 c) 0),
    He.glo_ok X G (all_at (fa_c0 c) 1),
    He.glo_ok X G (all_at (fa_c0 c) 2),
    He.glo_ok X G (all_at (fa_c0 c) 3),
    He.glo_ok X G (all_at (fa_c0 c) 4),
    He.glo_ok X G (all_at (fa_c0 c) 5),
    He.glo_ok X G (all_at (fa_c0 c) 6),
    He.glo_ok X G (all_at (fa_c0 c) 7),
    He.glo_ok X G (all_at (fa_c0 c) 8),
    He.glo_ok X G (all_at (fa_c0 c) 9),
    He.glo_ok X G (all_at (fa_c0 c) 10),
    He.glo_ok X G (all_at (fa_c0 c) 11),
    He.glo_ok X G (all_at (fa_c0 c) 12),
    He.glo_ok X G (all_at (fa_c0 c) 13),
    He.glo_ok X G (all_at (fa_c0 c) 14),
    He.glo_ok X G (all_at (fa_c0 c) 15),
    He.glo_ok X G (all_at (fa_c0 c) 16),
    He.glo_ok X G (all_at (fa_c0 c) 17),
    He.glo_ok X G (all_at (fa_c0 c) 18),
    He.glo_ok X G (all_at (fa_c0 c) 19),
    He.glo_ok X G (all_at (fa_c0 c) 20),
    He.glo_ok X G (all_at (fa_c0 c) 21),
    He.glo_ok X G (all_at (fa_c0 c) 22),
    He.glo_ok X G (all_at (fa_c0 c) 23),
    He.glo_ok X G (all_at (fa_c1 c) 0),
    He.glo_ok X G (all_at (fa_c1 c) 1),
    He.glo_ok X G (all_at (fa_c1 c) 2),
    He.glo_ok X G (all_at (fa_c1 c) 3),
    He.glo_ok X G (all_at (fa_c1 c) 4),
    He.glo_ok X G (all_at (fa_c1 c) 5),
    He.glo_ok X G (all_at (fa_c1 c) 6),
    He.glo_ok X G (all_at (fa_c1 c) 7),
    He.glo_ok X G (all_at (fa_c1 c) 8),
    He.glo_ok X G (all_at (fa_c1 c) 9),
    He.glo_ok X G (all_at (fa_c1 c) 10),
    He.glo_ok X G (all_at (fa_c1 c) 11),
    He.glo_ok X G (all_at (fa_c1 c) 12),
    He.glo_ok X G (all_at (fa_c1 c) 13),
    He.glo_ok X G (all_at (fa_c1 c) 14),
    He.glo_ok X G (all_at (fa_c1 c) 15),
    He.glo_ok X G (all_at (fa_c1 c) 16),
    He.glo_ok X G (all_at (fa_c1 c) 17),
    He.glo_ok X G (all_at (fa_c1 c) 18),
    He.glo_ok X G (all_at (fa_c1 c) 19),
    He.glo_ok X G (all_at (fa_c1 c) 20),
    He.free_ok X G (all_at (fa_c1 c) 21),
    He.free_ok X G (all_at (fa_c1 c) 22),
    He.free_ok X G (all_at (fa_c1 c) 23),
    He.free_ok X G (all_at (fa_c2 c) 0),
    He.free_ok X G (all_at (fa_c2 c) 1),
    He.free_ok X G (all_at (fa_c2 c) 2),
    He.free_ok X G (all_at (fa_c2 c) 3),
    He.free_ok X G (all_at (fa_c2 c) 4),
    He.free_ok X G (all_at (fa_c2 c) 5),
    He.free_ok X G (all_at (fa_c2 c) 6),
    He.free_ok X G (all_at (fa_c2 c) 7),
    He.free_ok X G (all_at (fa_c2 c) 8),
    He.free_ok X G (all_at (fa_c2 c) 9),
    He.free_ok X G (all_at (fa_c2 c) 10),
    He.free_ok X G (all_at (fa_c2 c) 11),
    He.free_ok X G (all_at (fa_c2 c) 12),
    He.int_ok X G (all_at (fa_c2 c) 13),
    He.int_ok X G (all_at (fa_c2 c) 14),
    He.int_ok X G (all_at (fa_c2 c) 15),
    He.int_ok X G (all_at (fa_c2 c) 16),
    He.int_ok X G (all_at (fa_c2 c) 17),
    He.str_ok X G (all_at (fa_c2 c) 18)⟩
section
variable {P : Program} {K : PySem.W.Frag} {mg : Str → Option Value} (T : Tx P K mg)
include T
theorem Tx.c_Net : Cls K (cNet K) := He.cls_ok (x := "Net") (all_at (fa_c2 T.says) 19)
theorem Tx.c_NetBook : Cls K (cNetBook K) := He.cls_ok (x := "NetBook") (all_at (fa_c2 T.says) 20)
theorem Tx.c_NetPlay : Cls K (cNetPlay K) := He.cls_ok (x := "NetPlay") (all_at (fa_c2 T.says) 21)
theorem Tx.c_Setting : Cls K (cSetting K) := He.cls_ok (x := "Setting") (all_at (fa_c2 T.says) 22)
theorem Tx.c_Bench : Cls K (cBench K) := He.cls_ok (x := "Bench") (all_at (fa_c2 T.says) 23)
theorem Tx.n_Net_rows : NoAttr K (cNet K) "rows" := He.noat_ok (x := "Net") (f := "rows") (all_at (fa_c3 T.says) 0)
theorem Tx.n_NetBook_order_of_words : NoAttr K (cNetBook K) "order_of_words" := He.noat_ok (x := "NetBook") (f := "order_of_words") (all_at (fa_c3 T.says) 1)
theorem Tx.n_NetBook_own : NoAttr K (cNetBook K) "own" := He.noat_ok (x := "NetBook") (f := "own") (all_at (fa_c3 T.says) 2)
theorem Tx.n_NetPlay_net : NoAttr K (cNetPlay K) "net" := He.noat_ok (x := "NetPlay") (f := "net") (all_at (fa_c3 T.says) 3)
theorem Tx.n_NetPlay_is_one : NoAttr K (cNetPlay K) "is_one" := He.noat_ok (x := "NetPlay") (f := "is_one") (all_at (fa_c3 T.says) 4)
theorem Tx.n_NetPlay_lock : NoAttr K (cNetPlay K) "lock" := He.noat_ok (x := "NetPlay") (f := "lock") (all_at (fa_c3 T.says) 5)
theorem Tx.n_NetPlay_there : NoAttr K (cNetPlay K) "there" := He.noat_ok (x := "NetPlay") (f := "there") (all_at (fa_c3 T.says) 6)
theorem Tx.n_NetPlay_people : NoAttr K (cNetPlay K) "people" := He.noat_ok (x := "NetPlay") (f := "people") (all_at (fa_c3 T.says) 7)
theorem Tx.n_NetPlay_bad : NoAttr K (cNetPlay K) "bad" := He.noat_ok (x := "NetPlay") (f := "bad") (all_at (fa_c3 T.says) 8)
theorem Tx.n_Setting_base : NoAttr K (cSetting K) "base" := He.noat_ok (x := "Setting") (f := "base") (all_at (fa_c3 T.says) 9)
theorem Tx.n_Setting_numbers : NoAttr K (cSetting K) "numbers" := He.noat_ok (x := "Setting") (f := "numbers") (all_at (fa_c3 T.says) 10)
theorem Tx.n_Bench_setting : NoAttr K (cBench K) "setting" := He.noat_ok (x := "Bench") (f := "setting") (all_at (fa_c3 T.says) 11)
theorem Tx.n_Bench_done : NoAttr K (cBench K) "done" := He.noat_ok (x := "Bench") (f := "done") (all_at (fa_c3 T.says) 12)
theorem Tx.n_Bench_states : NoAttr K (cBench K) "states" := He.noat_ok (x := "Bench") (f := "states") (all_at (fa_c3 T.says) 13)
theorem Tx.m_Net_init : Meth K (He.ga K "Net") "__init__" (He.ma K (He.ga K "Net") "__init__") := He.meth_ok (x := "Net") (m := "__init__") (all_at (fa_c3 T.says) 14)
theorem Tx.m_Net_names : Meth K (He.ga K "Net") "names" (He.ma K (He.ga K "Net") "names") := He.meth_ok (x := "Net") (m := "names") (all_at (fa_c3 T.says) 15)
theorem Tx.m_Net_look_at_name : Meth K (He.ga K "Net") "look_at_name" (He.ma K (He.ga K "Net") "look_at_name") := He.meth_ok (x := "Net") (m := "look_at_name") (all_at (fa_c3 T.says) 16)
theorem Tx.m_Net_getitem : Meth K (He.ga K "Net") "__getitem__" (He.ma K (He.ga K "Net") "__getitem__") := He.meth_ok (x := "Net") (m := "__getitem__") (all_at (fa_c3 T.says) 17)
theorem Tx.m_Net_order : Meth K (He.ga K "Net") "order" (He.ma K (He.ga K "Net") "order") := He.meth_ok (x := "Net") (m := "order") (all_at (fa_c3 T.says) 18)
theorem Tx.m_Net_lacks : Meth K (He.ga K "Net") "lacks" (He.ma K (He.ga K "Net") "lacks") := He.meth_ok (x := "Net") (m := "lacks") (all_at (fa_c3 T.says) 19)
theorem Tx.m_NetBook_is_value : Meth K (He.ga K "NetBook") "is_value" (He.ma K (He.ga K "NetBook") "is_value") := He.meth_ok (x := "NetBook") (m := "is_value") (all_at (fa_c3 T.says) 20)
theorem Tx.m_NetBook_twin : Meth K (He.ga K "NetBook") "twin" (He.ma K (He.ga K "NetBook") "twin") := He.meth_ok (x := "NetBook") (m := "twin") (all_at (fa_c3 T.says) 21)
theorem Tx.m_NetBook_first_wrong : Meth K (He.ga K "NetBook") "first_wrong" (He.ma K (He.ga K "NetBook") "first_wrong") := He.meth_ok (x := "NetBook") (m := "first_wrong") (all_at (fa_c3 T.says) 22)
theorem Tx.m_NetBook_look_at_word : Meth K (He.ga K "NetBook") "look_at_word" (He.ma K (He.ga K "NetBook") "look_at_word") := He.meth_ok (x := "NetBook") (m := "look_at_word") (all_at (fa_c3 T.says) 23)
theorem Tx.m_NetBook_getitem : Meth K (He.ga K "NetBook") "__getitem__" (He.ma K (He.ga K "NetBook") "__getitem__") := He.meth_ok (x := "NetBook") (m := "__getitem__") (all_at (fa_c4 T.says) 0)
theorem Tx.m_NetBook_setitem : Meth K (He.ga K "NetBook") "__setitem__" (He.ma K (He.ga K "NetBook") "__setitem__") := He.meth_ok (x := "NetBook") (m := "__setitem__") (all_at (fa_c4 T.says) 1)
theorem Tx.m_Book_init : Meth K (He.ga K "Book") "__init__" (He.ma K (He.ga K "Book") "__init__") := He.meth_ok (x := "Book") (m := "__init__") (all_at (fa_c4 T.says) 2)
theorem Tx.m_NetPlay_init : Meth K (He.ga K "NetPlay") "__init__" (He.ma K (He.ga K "NetPlay") "__init__") := He.meth_ok (x := "NetPlay") (m := "__init__") (all_at (fa_c4 T.says) 3)
theorem Tx.m_NetPlay_state : Meth K (He.ga K "NetPlay") "state" (He.ma K (He.ga K "NetPlay") "state") := He.meth_ok (x := "NetPlay") (m := "state") (all_at (fa_c4 T.says) 4)
theorem Tx.m_NetPlay_owners : Meth K (He.ga K "NetPlay") "owners" (He.ma K (He.ga K "NetPlay") "owners") := He.meth_ok (x := "NetPlay") (m := "owners") (all_at (fa_c4 T.says) 5)
theorem Tx.m_NetPlay_wanted_deeds : Meth K (He.ga K "NetPlay") "wanted_deeds" (He.ma K (He.ga K "NetPlay") "wanted_deeds") := He.meth_ok (x := "NetPlay") (m := "wanted_deeds") (all_at (fa_c4 T.says) 6)
theorem Tx.m_NetPlay_hand_deeds : Meth K (He.ga K "NetPlay") "hand_deeds" (He.ma K (He.ga K "NetPlay") "hand_deeds") := He.meth_ok (x := "NetPlay") (m := "hand_deeds") (all_at (fa_c4 T.says) 7)
theorem Tx.m_NetPlay_goes_back : Meth K (He.ga K "NetPlay") "goes_back" (He.ma K (He.ga K "NetPlay") "goes_back") := He.meth_ok (x := "NetPlay") (m := "goes_back") (all_at (fa_c4 T.says) 8)
theorem Tx.m_NetPlay_do : Meth K (He.ga K "NetPlay") "do" (He.ma K (He.ga K "NetPlay") "do") := He.meth_ok (x := "NetPlay") (m := "do") (all_at (fa_c4 T.says) 9)
theorem Tx.m_Setting_init : Meth K (He.ga K "Setting") "__init__" (He.ma K (He.ga K "Setting") "__init__") := He.meth_ok (x := "Setting") (m := "__init__") (all_at (fa_c4 T.says) 10)
theorem Tx.m_Bench_init : Meth K (He.ga K "Bench") "__init__" (He.ma K (He.ga K "Bench") "__init__") := He.meth_ok (x := "Bench") (m := "__init__") (all_at (fa_c4 T.says) 11)
theorem Tx.m_Bench_call : Meth K (He.ga K "Bench") "__call__" (He.ma K (He.ga K "Bench") "__call__") := He.meth_ok (x := "Bench") (m := "__call__") (all_at (fa_c4 T.says) 12)
theorem Tx.m_Bench_state : Meth K (He.ga K "Bench") "state" (He.ma K (He.ga K "Bench") "state") := He.meth_ok (x := "Bench") (m := "state") (all_at (fa_c4 T.says) 13)
theorem Tx.m_Bench_moves : Meth K (He.ga K "Bench") "moves" (He.ma K (He.ga K "Bench") "moves") := He.meth_ok (x := "Bench") (m := "moves") (all_at (fa_c4 T.says) 14)
theorem Tx.m_Bench_getitem : Meth K (He.ga K "Bench") "__getitem__" (He.ma K (He.ga K "Bench") "__getitem__") := He.meth_ok (x := "Bench") (m := "__getitem__") (all_at (fa_c4 T.says) 15)
theorem Tx.k_Net : Mk K (cNet K) (He.ma K (cNet K) "__init__") := He.mkr_ok (x := "Net") (all_at (fa_c4 T.says) 16)
theorem Tx.k_NetBook : Mk K (cNetBook K) (He.ma K (cNetBook K) "__init__") := He.mkr_ok (x := "NetBook") (all_at (fa_c4 T.says) 17)
theorem Tx.k_NetPlay : Mk K (cNetPlay K) (He.ma K (cNetPlay K) "__init__") := He.mkr_ok (x := "NetPlay") (all_at (fa_c4 T.says) 18)
theorem Tx.k_Setting : Mk K (cSetting K) (He.ma K (cSetting K) "__init__") := He.mkr_ok (x := "Setting") (all_at (fa_c4 T.says) 19)
theorem Tx.k_Bench : Mk K (cBench K) (He.ma K (cBench K) "__init__") := He.mkr_ok (x := "Bench") (all_at (fa_c4 T.says) 20)
theorem Tx.d_is_whole : FdZ K "is_whole" "is_whole" s_is_whole [] [] (He.ga K "is_whole") := DefZ.funD (d := _) (def_at T.says 0) (all_at (fn_c0 T.says) 0) rfl
theorem Tx.d_is_number : FdZ K "is_number" "is_number" s_is_number [] [] (He.ga K "is_number") := DefZ.funD (d := _) (def_at T.says 1) (all_at (fn_c0 T.says) 1) rfl
theorem Tx.d_is_name : FdZ K "is_name" "is_name" s_is_name [] [] (He.ga K "is_name") := DefZ.funD (d := _) (def_at T.says 2) (all_at (fn_c0 T.says) 2) rfl
theorem Tx.d_is_needs : FdZ K "is_needs" "is_needs" s_is_needs [] [] (He.ga K "is_needs") := DefZ.funD (d := _) (def_at T.says 3) (all_at (fn_c0 T.says) 3) rfl
theorem Tx.d_is_same : FdZ K "is_same" "is_same" s_is_same [] [] (He.ga K "is_same") := DefZ.funD (d := _) (def_at T.says 4) (all_at (fn_c0 T.says) 4) rfl
theorem Tx.d_is_book : FdZ K "is_book" "is_book" s_is_book [] [] (He.ga K "is_book") := DefZ.funD (d := _) (def_at T.says 5) (all_at (fn_c0 T.says) 5) rfl
theorem Tx.d_look_at_book : FdZ K "look_at_book" "look_at_book" s_look_at_book [] [] (He.ga K "look_at_book") := DefZ.funD (d := _) (def_at T.says 6) (all_at (fn_c0 T.says) 6) rfl
theorem Tx.d_first_of_net : FdZ K "first_of_net" "first_of_net" s_first_of_net [] [] (He.ga K "first_of_net") := DefZ.funD (d := _) (def_at T.says 7) (all_at (fn_c0 T.says) 7) rfl
theorem Tx.d_look_at_setting : FdZ K "look_at_setting" "look_at_setting" s_look_at_setting [] [] (He.ga K "look_at_setting") := DefZ.funD (d := _) (def_at T.says 8) (all_at (fn_c0 T.says) 8) rfl
theorem Tx.d_is_fault : FdZ K "is_fault" "is_fault" s_is_fault [] [] (He.ga K "is_fault") := DefZ.funD (d := _) (def_at T.says 9) (all_at (fn_c0 T.says) 9) rfl
theorem Tx.d_first_state : FdZ K "first_state" "first_state" s_first_state [] [] (He.ga K "first_state") := DefZ.funD (d := _) (def_at T.says 10) (all_at (fn_c0 T.says) 10) rfl
theorem Tx.d_play_of : FdZ K "play_of" "play_of" s_play_of [] [] (He.ga K "play_of") := DefZ.funD (d := _) (def_at T.says 11) (all_at (fn_c0 T.says) 11) rfl
theorem Tx.d_deeds_of : FdZ K "deeds_of" "deeds_of" s_deeds_of [] [] (He.ga K "deeds_of") := DefZ.funD (d := _) (def_at T.says 12) (all_at (fn_c0 T.says) 12) rfl
theorem Tx.d_moves : FdZ K "moves" "moves" s_moves [] [] (He.ga K "moves_rules") := DefZ.funD (d := _) (def_at T.says 13) (all_at (fn_c0 T.says) 13) rfl
theorem Tx.d_has_form : FdZ K "has_form" "has_form" s_has_form [] [] (He.ga K "has_form") := DefZ.funD (d := _) (def_at T.says 14) (all_at (fn_c0 T.says) 14) rfl
theorem Tx.d_is_possible : FdZ K "is_possible" "is_possible" s_is_possible [] [] (He.ga K "is_possible") := DefZ.funD (d := _) (def_at T.says 15) (all_at (fn_c0 T.says) 15) rfl
theorem Tx.d_step : FdZ K "step" "step" s_step [] [] (He.ga K "step") := DefZ.funD (d := _) (def_at T.says 16) (all_at (fn_c1 T.says) 0) rfl
theorem Tx.d_behind : FdZ K "behind" "behind" s_behind [] [] (He.ga K "behind") := DefZ.funD (d := _) (def_at T.says 17) (all_at (fn_c1 T.says) 1) rfl
theorem Tx.d_hand_of : FdZ K "hand_of" "hand_of" s_hand_of [] [] (He.ga K "hand_of") := DefZ.funD (d := _) (def_at T.says 18) (all_at (fn_c1 T.says) 2) rfl
theorem Tx.d__law_pool : FdZ K "_law_pool" "_law_pool" s__law_pool [] [] (He.ga K "_law_pool") := DefZ.funD (d := _) (def_at T.says 19) (all_at (fn_c1 T.says) 3) rfl
theorem Tx.d__law_take : FdZ K "_law_take" "_law_take" s__law_take [] [] (He.ga K "_law_take") := DefZ.funD (d := _) (def_at T.says 20) (all_at (fn_c1 T.says) 4) rfl
theorem Tx.d__law_one : FdZ K "_law_one" "_law_one" s__law_one [] [] (He.ga K "_law_one") := DefZ.funD (d := _) (def_at T.says 21) (all_at (fn_c1 T.says) 5) rfl
theorem Tx.d__law_words_of : FdZ K "_law_words_of" "_law_words_of" s__law_words_of [] [] (He.ga K "_law_words_of") := DefZ.funD (d := _) (def_at T.says 22) (all_at (fn_c1 T.says) 6) rfl
theorem Tx.d__law_choices : FdZ K "_law_choices" "_law_choices" s__law_choices [] [] (He.ga K "_law_choices") := DefZ.funD (d := _) (def_at T.says 23) (all_at (fn_c1 T.says) 7) rfl
theorem Tx.d__law_needs : FdZ K "_law_needs" "_law_needs" s__law_needs [] [] (He.ga K "_law_needs") := DefZ.funD (d := _) (def_at T.says 24) (all_at (fn_c1 T.says) 8) rfl
theorem Tx.d__law_wide_needs : FdZ K "_law_wide_needs" "_law_wide_needs" s__law_wide_needs [] [] (He.ga K "_law_wide_needs") := DefZ.funD (d := _) (def_at T.says 25) (all_at (fn_c1 T.says) 9) rfl
theorem Tx.d__law_own : FdZ K "_law_own" "_law_own" s__law_own [] [] (He.ga K "_law_own") := DefZ.funD (d := _) (def_at T.says 26) (all_at (fn_c1 T.says) 10) rfl
theorem Tx.d__law_book : FdZ K "_law_book" "_law_book" s__law_book [] [] (He.ga K "_law_book") := DefZ.funD (d := _) (def_at T.says 27) (all_at (fn_c1 T.says) 11) rfl
theorem Tx.d__law_setting : FdZ K "_law_setting" "_law_setting" s__law_setting [] [] (He.ga K "_law_setting") := DefZ.funD (d := _) (def_at T.says 28) (all_at (fn_c1 T.says) 12) rfl
theorem Tx.d__law_sorted : FdZ K "_law_sorted" "_law_sorted" s__law_sorted [] [] (He.ga K "_law_sorted") := DefZ.funD (d := _) (def_at T.says 29) (all_at (fn_c1 T.says) 13) rfl
theorem Tx.d__law_alone : FdZ K "_law_alone" "_law_alone" s__law_alone [] [] (He.ga K "_law_alone") := DefZ.funD (d := _) (def_at T.says 30) (all_at (fn_c1 T.says) 14) rfl
theorem Tx.d__law_reach : FdZ K "_law_reach" "_law_reach" s__law_reach [] [] (He.ga K "_law_reach") := DefZ.funD (d := _) (def_at T.says 31) (all_at (fn_c1 T.says) 15) rfl
theorem Tx.d__law_right : FdZ K "_law_right" "_law_right" s__law_right [] [] (He.ga K "_law_right") := DefZ.funD (d := _) (def_at T.says 32) (all_at (fn_c2 T.says) 0) rfl
theorem Tx.d_law : FdZ K "law" "law" s_law [] [] (He.ga K "law") := DefZ.funD (d := _) (def_at T.says 33) (all_at (fn_c2 T.says) 1) rfl
theorem Tx.d_Net_init : FdZ K "__init__" "Net.__init__" s_Net_init [] [] (He.ma K (cNet K) "__init__") := DefZ.funD (d := _) (def_at T.says 34) (all_at (fn_c2 T.says) 2) rfl
theorem Tx.d_Net_names : FdZ K "names" "Net.names" s_Net_names [] [] (He.ma K (cNet K) "names") := DefZ.funD (d := _) (def_at T.says 35) (all_at (fn_c2 T.says) 3) rfl
theorem Tx.d_Net_look_at_name : FdZ K "look_at_name" "Net.look_at_name" s_Net_look_at_name [] [] (He.ma K (cNet K) "look_at_name") := DefZ.funD (d := _) (def_at T.says 36) (all_at (fn_c2 T.says) 4) rfl
theorem Tx.d_Net_getitem : FdZ K "__getitem__" "Net.__getitem__" s_Net_getitem [] [] (He.ma K (cNet K) "__getitem__") := DefZ.funD (d := _) (def_at T.says 37) (all_at (fn_c2 T.says) 5) rfl
theorem Tx.d_Net_order : FdZ K "order" "Net.order" s_Net_order [] [] (He.ma K (cNet K) "order") := DefZ.funD (d := _) (def_at T.says 38) (all_at (fn_c2 T.says) 6) rfl
theorem Tx.d_Net_lacks : FdZ K "lacks" "Net.lacks" s_Net_lacks [] [] (He.ma K (cNet K) "lacks") := DefZ.funD (d := _) (def_at T.says 39) (all_at (fn_c2 T.says) 7) rfl
theorem Tx.d_NetBook_is_value : FdZ K "is_value" "NetBook.is_value" s_NetBook_is_value [] [] (He.ma K (cNetBook K) "is_value") := DefZ.funD (d := _) (def_at T.says 40) (all_at (fn_c2 T.says) 8) rfl
theorem Tx.d_NetBook_twin : FdZ K "twin" "NetBook.twin" s_NetBook_twin [] [] (He.ma K (cNetBook K) "twin") := DefZ.funD (d := _) (def_at T.says 41) (all_at (fn_c2 T.says) 9) rfl
theorem Tx.d_Book_first_wrong : FdZ K "first_wrong" "Book.first_wrong" s_Book_first_wrong [] [] (He.ma K (cNetBook K) "first_wrong") := DefZ.funD (d := _) (def_at T.says 42) (all_at (fn_c2 T.says) 10) rfl
theorem Tx.d_Book_look_at_word : FdZ K "look_at_word" "Book.look_at_word" s_Book_look_at_word [] [] (He.ma K (cNetBook K) "look_at_word") := DefZ.funD (d := _) (def_at T.says 43) (all_at (fn_c2 T.says) 11) rfl
theorem Tx.d_Book_getitem : FdZ K "__getitem__" "Book.__getitem__" s_Book_getitem [] [] (He.ma K (cNetBook K) "__getitem__") := DefZ.funD (d := _) (def_at T.says 44) (all_at (fn_c2 T.says) 12) rfl
theorem Tx.d_Book_setitem : FdZ K "__setitem__" "Book.__setitem__" s_Book_setitem [] [] (He.ma K (cNetBook K) "__setitem__") := DefZ.funD (d := _) (def_at T.says 45) (all_at (fn_c2 T.says) 13) rfl
theorem Tx.d_Book_init : FdZ K "__init__" "Book.__init__" s_Book_init [] [] (He.ma K (cBook K) "__init__") := DefZ.funD (d := _) (def_at T.says 46) (all_at (fn_c2 T.says) 14) rfl
theorem Tx.d_NetPlay_init : FdZ K "__init__" "NetPlay.__init__" s_NetPlay_init [] [] (He.ma K (cNetPlay K) "__init__") := DefZ.funD (d := _) (def_at T.says 47) (all_at (fn_c2 T.says) 15) rfl
theorem Tx.d_NetPlay_state : FdZ K "state" "NetPlay.state" s_NetPlay_state [] [] (He.ma K (cNetPlay K) "state") := DefZ.funD (d := _) (def_at T.says 48) (all_at (fn_c3 T.says) 0) rfl
theorem Tx.d_NetPlay_owners : FdZ K "owners" "NetPlay.owners" s_NetPlay_owners [] [] (He.ma K (cNetPlay K) "owners") := DefZ.funD (d := _) (def_at T.says 49) (all_at (fn_c3 T.says) 1) rfl
theorem Tx.d_NetPlay_wanted_deeds : FdZ K "wanted_deeds" "NetPlay.wanted_deeds" s_NetPlay_wanted_deeds [] [] (He.ma K (cNetPlay K) "wanted_deeds") := DefZ.funD (d := _) (def_at T.says 50) (all_at (fn_c3 T.says) 2) rfl
theorem Tx.d_NetPlay_hand_deeds : FdZ K "hand_deeds" "NetPlay.hand_deeds" s_NetPlay_hand_deeds [] [] (He.ma K (cNetPlay K) "hand_deeds") := DefZ.funD (d := _) (def_at T.says 51) (all_at (fn_c3 T.says) 3) rfl
theorem Tx.d_NetPlay_goes_back : FdZ K "goes_back" "NetPlay.goes_back" s_NetPlay_goes_back [] [] (He.ma K (cNetPlay K) "goes_back") := DefZ.funD (d := _) (def_at T.says 52) (all_at (fn_c3 T.says) 4) rfl
theorem Tx.d_NetPlay_do : FdZ K "do" "NetPlay.do" s_NetPlay_do [] [] (He.ma K (cNetPlay K) "do") := DefZ.funD (d := _) (def_at T.says 53) (all_at (fn_c3 T.says) 5) rfl
theorem Tx.d_Setting_init : FdZ K "__init__" "Setting.__init__" s_Setting_init [V.int 2] [("makes", V.int 2), ("fails", V.int 1)] (He.ma K (cSetting K) "__init__") := DefZ.funD (d := _) (def_at T.says 54) (all_at (fn_c3 T.says) 6) rfl
theorem Tx.d_Bench_init : FdZ K "__init__" "Bench.__init__" s_Bench_init [] [] (He.ma K (cBench K) "__init__") := DefZ.funD (d := _) (def_at T.says 55) (all_at (fn_c3 T.says) 7) rfl
theorem Tx.d_Bench_call : FdZ K "__call__" "Bench.__call__" s_Bench_call [] [] (He.ma K (cBench K) "__call__") := DefZ.funD (d := _) (def_at T.says 56) (all_at (fn_c3 T.says) 8) rfl
theorem Tx.d_Bench_state : FdZ K "state" "Bench.state" s_Bench_state [] [] (He.ma K (cBench K) "state") := DefZ.funD (d := _) (def_at T.says 57) (all_at (fn_c3 T.says) 9) rfl
theorem Tx.d_Bench_moves : FdZ K "moves" "Bench.moves" s_Bench_moves [] [] (He.ma K (cBench K) "moves") := DefZ.funD (d := _) (def_at T.says 58) (all_at (fn_c3 T.says) 10) rfl
theorem Tx.d_Bench_getitem : FdZ K "__getitem__" "Bench.__getitem__" s_Bench_getitem [] [] (He.ma K (cBench K) "__getitem__") := DefZ.funD (d := _) (def_at T.says 59) (all_at (fn_c3 T.says) 11) rfl
theorem Tx.d_NetBook_way : FdZ K "way" "NetBook.way" s_NetBook_way [] [] (prG K (He.ma K (cNetBook K) "way")) := DefZ.funD (d := _) (def_at T.says 60) (all_at (fn_c3 T.says) 12) rfl
theorem Tx.d_Setting_hands : FdZ K "hands" "Setting.hands" s_Setting_hands [] [] (prG K (He.ma K (cSetting K) "hands")) := DefZ.funD (d := _) (def_at T.says 61) (all_at (fn_c3 T.says) 13) rfl
theorem Tx.d_Bench_fault : FdZ K "fault" "Bench.fault" s_Bench_fault [] [] (prG K (He.ma K (cBench K) "fault")) := DefZ.funD (d := _) (def_at T.says 62) (all_at (fn_c3 T.says) 14) rfl
theorem Tx.t_GUARDS (H : Hp) : SqT K H (He.ga K "GUARDS") ((["own", "one"] : List Str).map V.str) := He.tupB_ok (ex_c0 T.says) H
theorem Tx.t_FAULTS (H : Hp) : SqT K H (He.ga K "FAULTS") ((["half", "twice", "itself"] : List Str).map V.str) := He.tupB_ok (ex_c1 T.says) H
theorem Tx.isi_Net : PySem.W.kitOne K (.ref (cNet K)) (.ref (cNet K)) = some true := of_decide_eq_true (ex_c2 T.says)
theorem Tx.isi_Setting : PySem.W.kitOne K (.ref (cSetting K)) (.ref (cSetting K)) = some true := of_decide_eq_true (ex_c3 T.says)
theorem Tx.isi_books : PySem.W.kitAny K (.ref (cNetBook K)) [.ref (cFirstBook K), .ref (cWakingBook K), .ref (cLateBook K), .ref (cNetBook K)] = some true := of_decide_eq_true (ex_c4 T.says)
theorem Tx.ty_Net {H : Hp} {a dx : Addr} {fs : List (Str × V)} (h : H a = some (.ins (cNet K) dx fs)) : TyX K H (.ref a) (.ref (cNet K)) := by
  obtain ⟨h1, h2⟩ := He.ba (ex_c5 T.says)
  obtain ⟨h3, h4⟩ := He.ba h2
  obtain ⟨h5, h6⟩ := He.ba h4
  exact .base (.ins h T.c_Net (of_decide_eq_true h1) (of_decide_eq_true h3) (of_decide_eq_true h5) (of_decide_eq_true h6))
theorem Tx.ty_NetBook {H : Hp} {a dx : Addr} {fs : List (Str × V)} (h : H a = some (.ins (cNetBook K) dx fs)) : TyX K H (.ref a) (.ref (cNetBook K)) := by
  obtain ⟨h1, h2⟩ := He.ba (ex_c6 T.says)
  obtain ⟨h3, h4⟩ := He.ba h2
  obtain ⟨h5, h6⟩ := He.ba h4
  exact .base (.ins h T.c_NetBook (of_decide_eq_true h1) (of_decide_eq_true h3) (of_decide_eq_true h5) (of_decide_eq_true h6))
theorem Tx.ty_Setting {H : Hp} {a dx : Addr} {fs : List (Str × V)} (h : H a = some (.ins (cSetting K) dx fs)) : TyX K H (.ref a) (.ref (cSetting K)) := by
  obtain ⟨h1, h2⟩ := He.ba (ex_c7 T.says)
  obtain ⟨h3, h4⟩ := He.ba h2
  obtain ⟨h5, h6⟩ := He.ba h4
  exact .base (.ins h T.c_Setting (of_decide_eq_true h1) (of_decide_eq_true h3) (of_decide_eq_true h5) (of_decide_eq_true h6))
theorem Tx.u_Net_getitem : SubO K (cNet K) (He.ma K (cNet K) "__getitem__") "__getitem__" := by
  obtain ⟨h1, h2⟩ := He.ba (ex_c8 T.says)
  obtain ⟨h3, h4⟩ := He.ba h2
  obtain ⟨h5, h6⟩ := He.ba h4
  exact ⟨He.eqO_ok h1, h3, h5, h6⟩
theorem Tx.u_NetBook_getitem : SubO K (cNetBook K) (He.ma K (cNetBook K) "__getitem__") "__getitem__" := by
  obtain ⟨h1, h2⟩ := He.ba (ex_c9 T.says)
  obtain ⟨h3, h4⟩ := He.ba h2
  obtain ⟨h5, h6⟩ := He.ba h4
  exact ⟨He.eqO_ok h1, h3, h5, h6⟩
theorem Tx.u_NetBook_setitem : SubO K (cNetBook K) (He.ma K (cNetBook K) "__setitem__") "__setitem__" := by
  obtain ⟨h1, h2⟩ := He.ba (ex_c10 T.says)
  obtain ⟨h3, h4⟩ := He.ba h2
  obtain ⟨h5, h6⟩ := He.ba h4
  exact ⟨He.eqO_ok h1, h3, h5, h6⟩
theorem Tx.u_Bench_getitem : SubO K (cBench K) (He.ma K (cBench K) "__getitem__") "__getitem__" := by
  obtain ⟨h1, h2⟩ := He.ba (ex_c11 T.says)
  obtain ⟨h3, h4⟩ := He.ba h2
  obtain ⟨h5, h6⟩ := He.ba h4
  exact ⟨He.eqO_ok h1, h3, h5, h6⟩
theorem Tx.u_Bench_call : SubO K (cBench K) (He.ma K (cBench K) "__call__") "__call__" := by
  obtain ⟨h1, h2⟩ := He.ba (ex_c12 T.says)
  obtain ⟨h3, h4⟩ := He.ba h2
  obtain ⟨h5, h6⟩ := He.ba h4
  exact ⟨He.eqO_ok h1, h3, h5, h6⟩
theorem Tx.p_NetBook_way : PropOf K (cNetBook K) "way" (He.ma K (cNetBook K) "way") (prG K (He.ma K (cNetBook K) "way")) := by
  obtain ⟨h1, h2⟩ := He.ba (ex_c13 T.says)
  obtain ⟨h3, h4⟩ := He.ba h2
  obtain ⟨h5, h6⟩ := He.ba h4
  refine ⟨He.eqO_ok h1, He.eqO_ok h3, of_decide_eq_true h5, ?_⟩
  unfold prG
  split at h6
  · rename_i g rest e
    rw [e]
    exact ⟨rest, rfl⟩
  · cases h6
theorem Tx.p_Setting_hands : PropOf K (cSetting K) "hands" (He.ma K (cSetting K) "hands") (prG K (He.ma K (cSetting K) "hands")) := by
  obtain ⟨h1, h2⟩ := He.ba (ex_c14 T.says)
  obtain ⟨h3, h4⟩ := He.ba h2
  obtain ⟨h5, h6⟩ := He.ba h4
  refine ⟨He.eqO_ok h1, He.eqO_ok h3, of_decide_eq_true h5, ?_⟩
  unfold prG
  split at h6
  · rename_i g rest e
    rw [e]
    exact ⟨rest, rfl⟩
  · cases h6
theorem Tx.p_Bench_fault : PropOf K (cBench K) "fault" (He.ma K (cBench K) "fault") (prG K (He.ma K (cBench K) "fault")) := by
  obtain ⟨h1, h2⟩ := He.ba (ex_c15 T.says)
  obtain ⟨h3, h4⟩ := He.ba h2
  obtain ⟨h5, h6⟩ := He.ba h4
  refine ⟨He.eqO_ok h1, He.eqO_ok h3, of_decide_eq_true h5, ?_⟩
  unfold prG
  split at h6
  · rename_i g rest e
    rw [e]
    exact ⟨rest, rfl⟩
  · cases h6
end
end K57

set_option Elab.async false
set_option linter.all false
set_option maxRecDepth 100000
set_option maxHeartbeats 0
namespace K57
open PySem PySem.W PySem.Calls PyProof.Rows HandSHeadRun
abbrev R : OpenRow := OpenLaw.row PySem.Challenge.rw_firstmade_k57_whole_nets_made_in_order
abbrev qv : Program := view R.prog [89]
def names0 : List PySem.Str := [("_wall" : PySem.Str), ("__name__" : PySem.Str), ("MadeError" : PySem.Str), ("NoValue" : PySem.Str), ("NoSwitch" : PySem.Str), ("NoBook" : PySem.Str), ("NoSetting" : PySem.Str), ("NoMove" : PySem.Str), ("NoName" : PySem.Str), ("NoNet" : PySem.Str), ("NoHand" : PySem.Str), ("LETTERS" : PySem.Str), ("MOST_LETTERS" : PySem.Str), ("is_whole" : PySem.Str), ("is_number" : PySem.Str), ("is_name" : PySem.Str), ("MOST_VALUES" : PySem.Str), ("is_needs" : PySem.Str), ("Net" : PySem.Str), ("ORDERS" : PySem.Str)]
def names1 : List PySem.Str := [("FIRST" : PySem.Str), ("WAKING" : PySem.Str), ("FENCES" : PySem.Str), ("LATE" : PySem.Str), ("GUARDS" : PySem.Str), ("is_same" : PySem.Str), ("Book" : PySem.Str), ("FirstBook" : PySem.Str), ("WakingBook" : PySem.Str), ("LateBook" : PySem.Str), ("NetBook" : PySem.Str), ("is_book" : PySem.Str), ("look_at_book" : PySem.Str), ("WRITES" : PySem.Str), ("writes_of" : PySem.Str), ("first_of_first" : PySem.Str), ("FirstPlay" : PySem.Str), ("STORED" : PySem.Str), ("first_of_late" : PySem.Str), ("steps_of" : PySem.Str)]
def names2 : List PySem.Str := [("LatePlay" : PySem.Str), ("first_of_net" : PySem.Str), ("NetPlay" : PySem.Str), ("MOST_HANDS" : PySem.Str), ("MOST_MAKES" : PySem.Str), ("MOST_FAILS" : PySem.Str), ("Setting" : PySem.Str), ("look_at_setting" : PySem.Str), ("first_of_waking" : PySem.Str), ("WakePlay" : PySem.Str), ("FAULTS" : PySem.Str), ("is_fault" : PySem.Str), ("first_state" : PySem.Str), ("play_of" : PySem.Str), ("deeds_of" : PySem.Str), ("moves" : PySem.Str), ("moves_rules" : PySem.Str), ("has_form" : PySem.Str), ("is_possible" : PySem.Str), ("step" : PySem.Str)]
def names3 : List PySem.Str := [("behind" : PySem.Str), ("Bench" : PySem.Str), ("hand_of" : PySem.Str), ("_law_pool" : PySem.Str), ("_law_take" : PySem.Str), ("_law_one" : PySem.Str), ("_law_words_of" : PySem.Str), ("_law_writings" : PySem.Str), ("_law_choices" : PySem.Str), ("_law_needs" : PySem.Str), ("_law_wide_needs" : PySem.Str), ("_law_own" : PySem.Str), ("_law_book" : PySem.Str), ("_law_setting" : PySem.Str), ("_law_sorted" : PySem.Str), ("_law_alone" : PySem.Str), ("_law_reach" : PySem.Str), ("_law_right" : PySem.Str)]
def names : List PySem.Str := names0 ++ (names1 ++ (names2 ++ (names3)))
def ob (s : PySem.W.SharedT) : AlZ := obsZG (HandSHeadRun.getT s)
theorem ob_eq (s : PySem.W.SharedT) : ob s = hookZ.obs s.abs := obsZG_eq (HandSHeadRun.getT_eq s)
/-! the top's run, three looks at its end, each proved apart (all at once is more than 12000 MB) -/
noncomputable abbrev endX (w : World) (os : OsState) : Option PySem.W.SharedT := endF (stepQ (denQ tabQ) R.prog w) 20000 R.prog w os
noncomputable abbrev KX (s : PySem.W.SharedT) : PySem.W.Frag := He.frG (HandSHeadRun.getT s) (asZ (HandSHeadRun.getT s))
abbrev RunA (w : World) : Prop := ∀ os : OsState, (endX w os).map (fun s => (looksF R.prog (boot_heap w.params) s.abs, seenQ qv names (importedModules R.prog.main.body) (fun s => xlAt qv [] s && recOk R.toRowW.records s) s.abs)) = some (true, openGood qv names)
abbrev RunB (w : World) : Prop := ∀ os : OsState, (endX w os).map (fun s => (faAll (KX s) && exAll (KX s))) = some true
abbrev RunC (w : World) : Prop := ∀ os : OsState, (endX w os).map (fun s => ((fnAll (KX s) && dInit.ok (KX s)), (ob s).2)) = some (true, valZ.2)
theorem runA0 (w : World) : RunA (w.withFollow "special-get-raises" false) := by
  intro os
  kernel_rfl
theorem runA1 (w : World) : RunA (w.withFollow "special-get-raises" true) := by
  intro os
  kernel_rfl
theorem runB0 (w : World) : RunB (w.withFollow "special-get-raises" false) := by
  intro os
  kernel_rfl
theorem runB1 (w : World) : RunB (w.withFollow "special-get-raises" true) := by
  intro os
  kernel_rfl
theorem runC0 (w : World) : RunC (w.withFollow "special-get-raises" false) := by
  intro os
  kernel_rfl
theorem runC1 (w : World) : RunC (w.withFollow "special-get-raises" true) := by
  intro os
  kernel_rfl
theorem join3 {S α β : Type} {x : Option S} {f : S → α} {g : S → β} {K : S → PySem.W.Frag} {h : S → AlZ} {a : α} {b : β} (hh : ∀ s, (h s).1 = (faAll (K s) && (exAll (K s) && (fnAll (K s) && dInit.ok (K s))))) (h1 : x.map (fun s => (f s, g s)) = some (a, b)) (h2 : x.map (fun s => (faAll (K s) && exAll (K s))) = some true)
    (h3 : x.map (fun s => ((fnAll (K s) && dInit.ok (K s)), (h s).2)) = some (true, valZ.2)) : x.map (fun s => (f s, g s, h s)) = some (a, b, valZ) := by
  cases x with
  | none => cases h1
  | some s =>
    have e1 := Prod.mk.inj (Option.some.inj h1)
    have e2 : (faAll (K s) && exAll (K s)) = true := Option.some.inj h2
    have e3 := Prod.mk.inj (Option.some.inj h3)
    have e4 : (h s).1 = valZ.1 := by
      rw [hh, ← Bool.and_assoc, e2, e3.1]
      rfl
    have e5 : h s = valZ := Prod.ext e4 e3.2
    show some (f s, g s, h s) = some (a, b, valZ)
    rw [e5, e1.1, e1.2]
theorem run (w : World) : HandSHeadRun.RunEq R qv hookZ ob 20000 names w := fun os => join3 (K := KX) (h := ob) (fun s => rfl) (byRow2 (P := RunA) "special-get-raises" runA0 runA1 w os) (byRow2 (P := RunB) "special-get-raises" runB0 runB1 w os) (byRow2 (P := RunC) "special-get-raises" runC0 runC1 w os)
end K57

set_option Elab.async false
set_option linter.all false
set_option maxRecDepth 100000
set_option maxHeartbeats 4000000
/-! ZV: more rules: chains, isinstance, comprehensions over texts. -/
namespace K57
open PySem PySem.Spec PyProof.Rows L2

section
variable {X : Cx} {e a b c o : Expr} {σ : L2.St} {H H' : Hp} {P P1 P2 : Pd} {v w x y : V} {d d1 d2 : PyData} {ds ds1 ds2 : List PyData} {pos p2 : Pos}
/-- i <= e <= j -/
theorem ev_lele {i j n : Int} {k : Bool} (ha : Ev X a σ H (.int i)) (hb : Ev X b σ H (.int n)) (hc : Ev X c σ H (.int j)) (hk : decide (i ≤ n ∧ n ≤ j) = k) (hm : lastMarks [.LtE, .LtE] [b, c] = false := by with_unfolding_all rfl) : Ev X (.Compare a [.LtE, .LtE] [b, c] pos) σ H (.bl k) :=
  .of (pe_chain op_le op_le pe_w pe_w pe_w hm) fun H1 l => (ha H1 l).mono fun v1 H2 ⟨B1, s1, (p1 : v1 = _)⟩ => ((hb.le s1.up) H2 s1.lo).mono fun v2 H3 ⟨B2, s2, (p2 : v2 = _)⟩ => by
    subst p1 p2
    refine ⟨i, n, rfl, rfl, decide (i ≤ n), rfl, ?_⟩
    by_cases h : i ≤ n
    · rw [if_pos (decide_eq_true h)]
      refine ((hc.le (s1.up.trans s2.up)) H3 s2.lo).mono fun v3 H4 ⟨B3, s3, (p3 : v3 = _)⟩ => ?_
      subst p3
      refine ⟨n, j, rfl, rfl, B3, (s1.trans s2).trans s3, ?_⟩
      show V.bl (decide (n ≤ j)) = V.bl k
      rw [← hk]
      simp [h]
    · rw [if_neg (by simp [h])]
      refine ⟨B2, s1.trans s2, ?_⟩
      show V.bl false = V.bl k
      rw [← hk]
      simp [h]
/-- .. as a test -/
theorem et_lele {i j n : Int} {k : Bool} (ha : Ev X a σ H (.int i)) (hb : Ev X b σ H (.int n)) (hc : Ev X c σ H (.int j)) (hk : decide (i ≤ n ∧ n ≤ j) = k) (hm : lastMarks [.LtE, .LtE] [b, c] = false := by with_unfolding_all rfl) : EvT X (.Compare a [.LtE, .LtE] [b, c] pos) σ H k :=
  .of (pt_chain op_le op_le pe_w pe_w pe_w hm) fun H1 l => (ha H1 l).mono fun v1 H2 ⟨B1, s1, (p1 : v1 = _)⟩ => ((hb.le s1.up) H2 s1.lo).mono fun v2 H3 ⟨B2, s2, (p2 : v2 = _)⟩ => by
    subst p1 p2
    refine ⟨i, n, rfl, rfl, decide (i ≤ n), rfl, ?_⟩
    by_cases h : i ≤ n
    · rw [if_pos (decide_eq_true h)]
      refine ((hc.le (s1.up.trans s2.up)) H3 s2.lo).mono fun v3 H4 ⟨B3, s3, (p3 : v3 = _)⟩ => ?_
      subst p3
      refine ⟨n, j, rfl, rfl, decide (n ≤ j), rfl, ?_, (s1.same.trans s2.same).trans s3.same⟩
      rw [← hk]
      simp [h]
    · rw [if_neg (by simp [h])]
      refine ⟨false, rfl, ?_, s1.same.trans s2.same⟩
      rw [← hk]
      simp [h]
/-- isinstance(e, built-in type) -/
theorem ev_ist {p q : Pos} {n : Str} {id : String} {t : Value} {k : Bool} (hm : X.mg "isinstance" = none) (hn : X.mg n = none) (ha : EvP X a σ H P1) (ht : ∀ v B, Le H B → P1.p v B → ∀ H', Le B H' → TyX X.K H' v t) (hk : PySem.W.kitOne X.K t (.type id) = some k) (hv : bootBuiltins n = some (.type id) := by rfl)
    (hi : bootBuiltins "isinstance" = some (.builtin "isinstance") := by rfl) (h1 : n ≠ "__name__" := by decide) (hd : (n == ("__debug__" : Str)) = false := by decide) (hg : Gl X "isinstance" := by rfl) (hg2 : Gl X n := by rfl) (he : starEach [a, .Name n q] X.env = (false, eval a X.env) :: starEach [.Name n q] X.env := by rfl)
    (he2 : starEach [.Name n q] X.env = (false, eval (.Name n q) X.env) :: starEach [] X.env := by rfl) (hpl : (backTo pos (starEach [.Name n q] X.env)).any (·.1) = false := by rfl) : Ev X (.Call (.Name "isinstance" p) [a, .Name n q] [] pos) σ H (.bl k) :=
  ev_isi hm hi ha (ev_bltn hg2 hn hv (v := .ty id) rfl h1 hd) (.ty id) hk ht hg he he2 hpl
theorem ty_sqT {K : PySem.W.Frag} {H : Hp} {a : Addr} {xs : List V} (h : SqT K H a xs) : TyX K H (.ref a) (.type "tuple") := by
  rcases h with (h | ⟨o, h⟩) | ⟨o, its, n, h1, h2, _⟩
  · exact .base (.tup h)
  · exact .fTuple h
  · exact .kTuple h1 h2
theorem ty_sqL {K : PySem.W.Frag} {H : Hp} {a : Addr} {xs : List V} (h : SqL K H a xs) : TyX K H (.ref a) (.type "list") := by
  rcases h with (h | ⟨o, h⟩) | ⟨o, its, n, h1, h2, _⟩
  · exact .base (.lst h)
  · exact .base (.frz h)
  · exact .kList h1 h2
theorem ty_rd {K : PySem.W.Frag} {H : Hp} {a : Addr} {kvs : List (Key × V)} (h : Rd H a (.dK kvs)) : TyX K H (.ref a) (.type "dict") := by
  rcases h with h | ⟨o, h⟩
  · exact .base (.dK h)
  · exact .fDict h
/-- the type of data -/
def tyD : PyData → Value
  | .none => .type "NoneType"
  | .bool _ => .type "bool"
  | .int _ => .type "int"
  | .str _ => .type "str"
  | .list _ => .type "list"
  | .tuple _ => .type "tuple"
  | .dict _ => .type "dict"
theorem ty_dp {K : PySem.W.Frag} {H : Hp} {v : V} {d : PyData} (h : Dp K H v d) : TyX K H v (tyD d) := by
  cases h with
  | non => exact .base .non
  | bl b => exact .base (.bl b)
  | int i => exact .base (.int i)
  | str x => exact .base (.str x)
  | lst s a => exact ty_sqL s
  | tup s a => exact ty_sqT s
/-- isinstance(data, built-in type) -/
theorem ev_isd {p q : Pos} {n : Str} {id : String} {k : Bool} (hm : X.mg "isinstance" = none) (hn : X.mg n = none) (ha : EvD X a σ H d) (hv : bootBuiltins n = some (.type id) := by rfl) (hk : PySem.W.kitOne X.K (tyD d) (.type id) = some k := by rfl)
    (hi : bootBuiltins "isinstance" = some (.builtin "isinstance") := by rfl) (h1 : n ≠ "__name__" := by decide) (hd : (n == ("__debug__" : Str)) = false := by decide) (hg : Gl X "isinstance" := by rfl) (hg2 : Gl X n := by rfl) (he : starEach [a, .Name n q] X.env = (false, eval a X.env) :: starEach [.Name n q] X.env := by rfl)
    (he2 : starEach [.Name n q] X.env = (false, eval (.Name n q) X.env) :: starEach [] X.env := by rfl) (hpl : (backTo pos (starEach [.Name n q] X.env)).any (·.1) = false := by rfl) : Ev X (.Call (.Name "isinstance" p) [a, .Name n q] [] pos) σ H (.bl k) :=
  ev_ist hm hn ha (fun v B _ h H' l => ty_dp (l.dp h)) hk hv hi h1 hd hg hg2 he he2 hpl
/-- text not in text -/
theorem et_ninS {z u : Str} {k : Bool} (ha : Ev X a σ H (.str z)) (hb : Ev X b σ H (.str u)) (hk : (Builtin.Str.occurrences u z 0 u.length 1).isEmpty = k) (hm : behindInMarks .NotIn b = false := by rfl) : EvT X (.Compare a [.NotIn] [b] pos) σ H k :=
  et_cmp op_notin_str ha hb (fun v1 v2 B H' _ l (h1 : v1 = _) (h2 : v2 = _) Q q => ⟨z, u, h1, h2, by
    rw [hk, Bool.not_not]
    exact q _ (Same.refl _)⟩) hm
end

section
variable {X : Cx} {elt iter tg : Expr} {ifs : List Expr} {scope : Scope} {own : List (Str × Nat)} {σ : L2.St} {H : Hp} {pos : Pos} {j : Nat}
def signs (z : Str) : List Str := z.cps.toList.map fun c => ⟨#[c]⟩
theorem lc_read_str {vs : List Nat} {z : Str} {F : Str → Bool} {G : Str → PyData} (hi : Ev X iter σ H (.str z)) (hj : j ∈ vs) (hl : z.cps.size ≤ 100000) (ht : HT' X scope ifs σ vs j H (signs z) PyData.str F) (he : HE' X scope elt σ vs j H (signs z) PyData.str F G) : ∀ H1, Le H H1 → ∀ Q : VK,
    (∀ v B H2, Stp H H1 B H2 → (Pd.dl X.K (((signs z).filter F).map G)).p v B → Q v H2) → tLc (iStr (WE X iter)) (gName j) (tI X scope ifs) (tX X scope elt) vs σ H1 Q := fun H1 l Q q => (hi H1 l).mono fun v H2 ⟨B, s, (p : v = .str z)⟩ => by
  have hlen : z.cps.size = (signs z).length := by rw [signs, List.length_map, Array.length_toList]
  refine ⟨z, p, fun D hD => lc_it walk_str (fun i H' => Ac X.K B H2 D (sofar (signs z) F G i) H') (Ac.start s.lo hD) (fun i H' _ ac => True.intro) (fun i x H' H'' hi ac ⟨e2, c, hc, ex⟩ => ?_) (fun H' ac => ?_)⟩
  · subst e2 ex
    have hy : (signs z)[i]? = some ⟨#[c]⟩ := by rw [signs, List.getElem?_map, Array.getElem?_toList, hc]; rfl
    exact ⟨wipe_set hj, turn_ok (φ := PyData.str) hD s.up hy (.str _) ac (by omega) ht he⟩
  · rw [hlen, sofar_all] at ac
    obtain ⟨B2, s2, p2⟩ := ac.fin hD
    exact q _ B2 H' (s.trans s2) p2
theorem el_lcS {z : Str} {F : Str → Bool} {G : Str → PyData} (hi : Ev X iter σ H (.str z)) (ht : HT' X scope ifs σ (own.map (·.2)) j H (signs z) PyData.str F) (he : HE' X scope elt σ (own.map (·.2)) j H (signs z) PyData.str F G) (hc : X.calm = true) (hN : X.N.Nodup) (ok : BlkOk X.N X.env.scope scope own)
    (hg : ∀ (s : Shared) (H : Hp) (C : Addr) (cl : List (Str × Addr)) (fp : List Addr), PG (X.blk s H scope (compEnvC scope cl C X.env) fp) tg (gName j)) (hj : j ∈ own.map (·.2)) (hl : z.cps.size ≤ 100000) (hs : ∀ x, foldedSetIterable iter X.env x = pure x := by intro _; rfl) :
    EvL X (.ListComp elt [⟨tg, iter, ifs, 0⟩] scope pos) σ H (((signs z).filter F).map G) :=
  .of (pe_lc hc hN (pi_str pe_w) ok hg pts_tI pe_tX hs) fun H1 l => lc_read_str hi hj hl ht he H1 l _ fun v B H2 s p => ⟨B, s, p⟩
end
/-! ### comprehensions with one name, in a context whose names are told -/
def blkB (N : List Str) (sc scope : Scope) (x : Str) (j : Nat) : Bool :=
  decide N.Nodup && decide (scope.kind = .function) && scope.names.all (fun y => decide (scope.names.lookup y.1 = some y.2)) && decide (N[j]? = some x) &&
  scope.names.all (fun y => !decide (y.2 = .free) || decide (sc.names.lookup y.1 = some .cell) || decide (sc.names.lookup y.1 = some .free)) &&
  scope.names.all (fun y => (!decide (y.2 = .local) && !decide (y.2 = .cell)) || decide (y.1 = x) || !decide (y.1 ∈ N)) && (decide (scope.names.lookup x = some .local) || decide (scope.names.lookup x = some .cell))
theorem blk_of {N : List Str} {sc scope : Scope} {x : Str} {j : Nat} (h : blkB N sc scope x j = true) : N.Nodup ∧ BlkOk N sc scope [(x, j)] ∧ N[j]? = some x ∧ Loc scope x := by
  unfold blkB at h
  simp only [Bool.and_eq_true, Bool.or_eq_true, Bool.not_eq_true', decide_eq_true_eq, decide_eq_false_iff_not, List.all_eq_true] at h
  obtain ⟨⟨⟨⟨⟨⟨h1, h2⟩, h3⟩, h4⟩, h5⟩, h6⟩, h7⟩ := h
  refine ⟨h1, ⟨h2, h3, fun p hp => ?_, fun y hy e => ?_, fun y hy e => ?_⟩, h4, h7⟩
  · rw [List.mem_singleton.mp hp]
    exact h4
  · rcases h5 y hy with (q | q) | q
    · exact absurd e q
    · exact .inl q
    · exact .inr q
  · rcases h6 y hy with (q | q) | q
    · rcases e with e | e
      · exact absurd e q.1
      · exact absurd e q.2
    · exact .inl (by rw [q]; simp)
    · exact .inr q
theorem lookup_relabel_cell {env : Env} : ∀ {names : List (Str × NameKind)} {x : Str}, names.lookup x = some .cell →
    (names.map fun (n, k) => if (k == NameKind.free && env.scope.kind == .function && env.kindOf n == some .cell) then (n, NameKind.cell) else (n, k)).lookup x = some .cell
  | [], _, h => by simp at h
  | (n, k) :: r, x, h => by
    have ih := @lookup_relabel_cell env r x
    show List.lookup x ((if (k == NameKind.free && env.scope.kind == .function && env.kindOf n == some .cell) = true then (n, NameKind.cell) else (n, k)) :: _) = _
    by_cases e : (x == n) = true
    · have hk : k = .cell := by
        simp [List.lookup, e] at h
        exact h
      subst hk
      rw [if_neg (by simp)]
      simp [List.lookup, e]
    · have e' : (x == n) = false := by simpa using e
      have h2 : r.lookup x = some .cell := by simpa [List.lookup, e'] using h
      split <;> simpa [List.lookup, e'] using ih h2
section
variable {X : Cx} {elt iter : Expr} {ifs : List Expr} {scope sc : Scope} {N : List Str} {σ : L2.St} {H : Hp} {pos px : Pos} {α : Type} {as : List α} {φ : α → PyData} {F : α → Bool} {G : α → PyData} {j : Nat} {x : Str}
theorem pgB (eN : X.N = N) (hb : blkB N sc scope x j = true) : ∀ (s : Shared) (H : Hp) (C : Addr) (cl : List (Str × Addr)) (fp : List Addr), PG (X.blk s H scope (compEnvC scope cl C X.env) fp) (.Name x px) (gName j) := fun s H C cl fp => by
  obtain ⟨h1, h2, h3, h4⟩ := blk_of hb
  subst eN
  rcases h4 with q | q
  · exact pg_name h1 h3 (.inl (lookup_relabel_local q)) (.inr (lookup_relabel_local q))
  · exact pg_name h1 h3 (.inr (lookup_relabel_cell q)) (.inl (by show (scope.names.lookup x == some .cell) = true; rw [q]; rfl))
theorem gen_lcL (eN : X.N = N) (eS : X.env.scope = sc) (hc : X.calm = true) (hb : blkB N sc scope x j = true) (hi : EvD X iter σ H (.list (as.map φ))) (ht : HT' X scope ifs σ [j] j H as φ F) (he : HE' X scope elt σ [j] j H as φ F G) (hl : as.length ≤ 100000)
    (hs : ∀ x, foldedSetIterable iter X.env x = pure x) : EvL X (.ListComp elt [⟨.Name x px, iter, ifs, 0⟩] scope pos) σ H ((as.filter F).map G) := by
  obtain ⟨h1, h2, h3, h4⟩ := blk_of hb
  exact el_lcL (x := x) (px := px) (own := [(x, j)]) hi ht he hc (by rw [eN]; exact h1) (by rw [eN, eS]; exact h2) (pgB eN hb) (List.mem_singleton.mpr rfl) hl hs
theorem gen_lcT (eN : X.N = N) (eS : X.env.scope = sc) (hc : X.calm = true) (hb : blkB N sc scope x j = true) (hi : EvD X iter σ H (.tuple (as.map φ))) (ht : HT' X scope ifs σ [j] j H as φ F) (he : HE' X scope elt σ [j] j H as φ F G) (hl : as.length ≤ 100000)
    (hs : ∀ x, foldedSetIterable iter X.env x = pure x) : EvL X (.ListComp elt [⟨.Name x px, iter, ifs, 0⟩] scope pos) σ H ((as.filter F).map G) := by
  obtain ⟨h1, h2, h3, h4⟩ := blk_of hb
  exact el_lcT (x := x) (px := px) (own := [(x, j)]) hi ht he hc (by rw [eN]; exact h1) (by rw [eN, eS]; exact h2) (pgB eN hb) (List.mem_singleton.mpr rfl) hl hs
theorem gen_lcS {z : Str} {F : Str → Bool} {G : Str → PyData} (eN : X.N = N) (eS : X.env.scope = sc) (hc : X.calm = true) (hb : blkB N sc scope x j = true) (hi : Ev X iter σ H (.str z)) (ht : HT' X scope ifs σ [j] j H (signs z) PyData.str F) (he : HE' X scope elt σ [j] j H (signs z) PyData.str F G) (hl : z.cps.size ≤ 100000)
    (hs : ∀ x, foldedSetIterable iter X.env x = pure x) : EvL X (.ListComp elt [⟨.Name x px, iter, ifs, 0⟩] scope pos) σ H (((signs z).filter F).map G) := by
  obtain ⟨h1, h2, h3, h4⟩ := blk_of hb
  exact el_lcS (own := [(x, j)]) hi ht he hc (by rw [eN]; exact h1) (by rw [eN, eS]; exact h2) (pgB eN hb) (List.mem_singleton.mpr rfl) hl hs
theorem gen_lcK {d : Addr} {kvs : List (Key × V)} {ss : List Str} {F : Str → Bool} {G : Str → PyData} (eN : X.N = N) (eS : X.env.scope = sc) (hc : X.calm = true) (hb : blkB N sc scope x j = true) (hi : Ev X iter σ H (.ref d)) (hd : Rd H d (.dK kvs)) (hk : kvs.map (·.1) = ss.map Sum.inr)
    (ht : HT' X scope ifs σ [j] j H ss PyData.str F) (he : HE' X scope elt σ [j] j H ss PyData.str F G) (hl : ss.length ≤ 100000)
    (hs : ∀ x, foldedSetIterable iter X.env x = pure x) : EvL X (.ListComp elt [⟨.Name x px, iter, ifs, 0⟩] scope pos) σ H ((ss.filter F).map G) := by
  obtain ⟨h1, h2, h3, h4⟩ := blk_of hb
  exact el_lcK (own := [(x, j)]) hi hd hk ht he hc (by rw [eN]; exact h1) (by rw [eN, eS]; exact h2) (pgB eN hb) (List.mem_singleton.mpr rfl) hl hs
end
/-! the same in a def's body -/
section
variable {P : Program} {w : World} {K : PySem.W.Frag} {mg : Str → Option Value} {base : Heap} {N : List Str} {qual : Str} {sc scope : Scope} {f : Addr} {cdv : Value} {A0 : Around} {outer : List Env} {s0 : Shared} {H0 : Hp} {E0 : XK}
variable {elt iter : Expr} {ifs : List Expr} {σ : L2.St} {H : Hp} {pos px : Pos} {α : Type} {as : List α} {φ : α → PyData} {F : α → Bool} {G : α → PyData} {x : Str}
theorem cb_lcL (j : Nat) (hi : EvD (Cb P w K mg base N qual sc f cdv A0 outer s0 H0 E0) iter σ H (.list (as.map φ))) (ht : HT' (Cb P w K mg base N qual sc f cdv A0 outer s0 H0 E0) scope ifs σ [j] j H as φ F) (he : HE' (Cb P w K mg base N qual sc f cdv A0 outer s0 H0 E0) scope elt σ [j] j H as φ F G) (hl : as.length ≤ 100000) (hb : blkB N sc scope x j = true := by rfl)
    (hs : ∀ x, foldedSetIterable iter (Cb P w K mg base N qual sc f cdv A0 outer s0 H0 E0).env x = pure x := by intro _; rfl) : EvL (Cb P w K mg base N qual sc f cdv A0 outer s0 H0 E0) (.ListComp elt [⟨.Name x px, iter, ifs, 0⟩] scope pos) σ H ((as.filter F).map G) :=
  gen_lcL rfl rfl rfl hb hi ht he hl hs
theorem cb_lcT (j : Nat) (hi : EvD (Cb P w K mg base N qual sc f cdv A0 outer s0 H0 E0) iter σ H (.tuple (as.map φ))) (ht : HT' (Cb P w K mg base N qual sc f cdv A0 outer s0 H0 E0) scope ifs σ [j] j H as φ F) (he : HE' (Cb P w K mg base N qual sc f cdv A0 outer s0 H0 E0) scope elt σ [j] j H as φ F G) (hl : as.length ≤ 100000) (hb : blkB N sc scope x j = true := by rfl)
    (hs : ∀ x, foldedSetIterable iter (Cb P w K mg base N qual sc f cdv A0 outer s0 H0 E0).env x = pure x := by intro _; rfl) : EvL (Cb P w K mg base N qual sc f cdv A0 outer s0 H0 E0) (.ListComp elt [⟨.Name x px, iter, ifs, 0⟩] scope pos) σ H ((as.filter F).map G) :=
  gen_lcT rfl rfl rfl hb hi ht he hl hs
theorem cb_lcS {z : Str} {F : Str → Bool} {G : Str → PyData} (j : Nat) (hi : Ev (Cb P w K mg base N qual sc f cdv A0 outer s0 H0 E0) iter σ H (.str z)) (ht : HT' (Cb P w K mg base N qual sc f cdv A0 outer s0 H0 E0) scope ifs σ [j] j H (signs z) PyData.str F) (he : HE' (Cb P w K mg base N qual sc f cdv A0 outer s0 H0 E0) scope elt σ [j] j H (signs z) PyData.str F G) (hl : z.cps.size ≤ 100000) (hb : blkB N sc scope x j = true := by rfl)
    (hs : ∀ x, foldedSetIterable iter (Cb P w K mg base N qual sc f cdv A0 outer s0 H0 E0).env x = pure x := by intro _; rfl) : EvL (Cb P w K mg base N qual sc f cdv A0 outer s0 H0 E0) (.ListComp elt [⟨.Name x px, iter, ifs, 0⟩] scope pos) σ H (((signs z).filter F).map G) :=
  gen_lcS rfl rfl rfl hb hi ht he hl hs
theorem cb_lcK {d : Addr} {kvs : List (Key × V)} {ss : List Str} {F : Str → Bool} {G : Str → PyData} (j : Nat) (hi : Ev (Cb P w K mg base N qual sc f cdv A0 outer s0 H0 E0) iter σ H (.ref d)) (hd : Rd H d (.dK kvs)) (hk : kvs.map (·.1) = ss.map Sum.inr) (ht : HT' (Cb P w K mg base N qual sc f cdv A0 outer s0 H0 E0) scope ifs σ [j] j H ss PyData.str F) (he : HE' (Cb P w K mg base N qual sc f cdv A0 outer s0 H0 E0) scope elt σ [j] j H ss PyData.str F G) (hl : ss.length ≤ 100000) (hb : blkB N sc scope x j = true := by rfl)
    (hs : ∀ x, foldedSetIterable iter (Cb P w K mg base N qual sc f cdv A0 outer s0 H0 E0).env x = pure x := by intro _; rfl) : EvL (Cb P w K mg base N qual sc f cdv A0 outer s0 H0 E0) (.ListComp elt [⟨.Name x px, iter, ifs, 0⟩] scope pos) σ H ((ss.filter F).map G) :=
  gen_lcK rfl rfl rfl hb hi hd hk ht he hl hs
end
end K57

set_option Elab.async false
set_option linter.all false
set_option maxRecDepth 100000
set_option maxHeartbeats 4000000
/-! ZU: places that change, makes, dicts of data, dict comprehensions, sorting. -/
namespace K57
open PySem PySem.Spec PyProof.Rows L2

/-! ### steps that change the places S -/
structure StpX (S : List Addr) (B H B' H' : Hp) : Prop where
  same : SameX S H H'
  up : Le B B'
  lo : Le B' H'
  non : ∀ a, B a = none → H a ≠ none → B' a = none
theorem Stp.x {S : List Addr} {B H B' H' : Hp} (s : Stp B H B' H') : StpX S B H B' H' := ⟨fun a o _ h => s.same a o h, s.up, s.lo, s.non⟩
theorem SameX.refl {S : List Addr} {H : Hp} : SameX S H H := fun _ _ _ h => h
theorem SameX.trans {S : List Addr} {H H1 H2 : Hp} (a : SameX S H H1) (b : SameX S H1 H2) : SameX S H H2 := fun x o n h => b x o n (a x o n h)
theorem StpX.refl {S : List Addr} {B H : Hp} (l : Le B H) : StpX S B H B H := (Stp.refl l).x
/-- B knows nothing of S; H has all of S -/
def Off (S : List Addr) (B H : Hp) : Prop := ∀ p ∈ S, B p = none ∧ H p ≠ none
theorem StpX.nonS {S : List Addr} {B H B' H' : Hp} (s : StpX S B H B' H') (o : Off S B H) : ∀ p ∈ S, B' p = none := fun p hp => s.non p (o p hp).1 (o p hp).2
theorem le_sameX {S : List Addr} {B H H' : Hp} (l : Le B H) (s : SameX S H H') (o : ∀ p ∈ S, B p = none) : Le B H' := fun a u ha => by
  have na : a ∉ S := fun q => by rw [o a q] at ha; cases ha
  rcases l a u ha with h1 | ⟨kvs, d, r⟩
  · exact .inl (s a u na h1)
  · refine .inr ⟨kvs, d, ?_⟩
    rcases r with r | ⟨ob, r⟩
    · exact .inl (s a _ na r)
    · exact .inr ⟨ob, s a _ na r⟩
theorem StpX.trans {S : List Addr} {B H B1 H1 B2 H2 : Hp} (a : StpX S B H B1 H1) (b : StpX S B1 H1 B2 H2) (h : ∀ p ∈ S, H1 p ≠ none) : StpX S B H B2 H2 :=
  ⟨a.same.trans b.same, a.up.trans b.up, b.lo, fun x hb hh => b.non x (a.non x hb hh) (by
    by_cases q : x ∈ S
    · exact h x q
    · intro e
      cases ho : H x with
      | none => exact hh ho
      | some o =>
        rw [a.same x o q ho] at e
        cases e)⟩
/-- a change at p in S -/
theorem StpX.put {S : List Addr} {B H : Hp} {p : Addr} {o : HO} (l : Le B H) (hp : p ∈ S) (hB : B p = none) : StpX S B H B (upd H p o) :=
  ⟨fun a u n h => by
    have na : a ≠ p := fun q => n (by rw [q]; exact hp)
    rw [upd_ne na]
    exact h, Le.refl B, l.mut hB, fun _ h _ => h⟩
/-- what is made anew is known -/
theorem Stp.own {B H B1 H1 : Hp} {p : Addr} {o : HO} (s : Stp B H B1 H1) (hp : H p = none) (h1 : H1 p = some o) (hB : B1 p = none) : Stp B H (upd B1 p o) H1 :=
  ⟨s.same, s.up.trans (Le.new hB), fun a u ha => by
    by_cases q : a = p
    · subst q
      rw [upd_same] at ha
      cases ha
      exact .inl h1
    · rw [upd_ne q] at ha
      exact s.lo a u ha, fun a hb hh => by
    rw [upd_ne (fun q => hh (by rw [q]; exact hp))]
    exact s.non a hb hh⟩
/-- p made anew, then changed -/
theorem Stp.ownX {B H B1 H1 B2 H2 : Hp} {p : Addr} (s : Stp B H B1 H1) (hp : H p = none) (hB : B1 p = none) (h1 : H1 p ≠ none) (t : StpX [p] B1 H1 B2 H2) : Stp B H B2 H2 :=
  ⟨fun a o h => t.same a o (fun q => by rw [List.mem_singleton.mp q, hp] at h; cases h) (s.same a o h), s.up.trans t.up, t.lo, fun a hb hh => t.non a (s.non a hb hh) (same_some s.same hh)⟩

/-! ### makes -/
/-- the promise of an __init__ : p the new instance, Fs what is known of its fields -/
def initSp (C : Addr) (A : List V → Hp → (List (Str × V) → Hp → Prop) → Prop) : Sp := fun vs H Q _ => ∃ p dx args B Fs, vs = .ref p :: args ∧ H p = some (.ins C dx []) ∧ B p = none ∧ Le B H ∧ A args B Fs ∧
  ∀ fs B' H', StpX [p] B H B' H' → H' p = some (.ins C dx fs) → B' p = none → Fs fs B' → Q .non H'
section
variable {X : Cx} {e a b c o : Expr} {σ : L2.St} {H H' : Hp} {P P1 P2 : Pd} {v w x y : V} {d d1 d2 : PyData} {ds ds1 ds2 : List PyData} {pos p2 : Pos}
/-- what holds behind a make -/
def MadeP (C : Addr) (H H1 : Hp) (Fs : List (Str × V) → Hp → Prop) : VK := fun v H2 => ∃ p dx fs B', v = .ref p ∧ H1 p = none ∧ B' p = none ∧ Stp H H1 B' H2 ∧ H2 p = some (.ins C dx fs) ∧ Fs fs B'
theorem made_of {C : Addr} {A : List V → Hp → (List (Str × V) → Hp → Prop) → Prop} {H H1 H2 B : Hp} {vs : List V} {Fs : List (Str × V) → Hp → Prop} {Q : VK} {E : XK} (s : Stp H H1 B H2) (h : A vs B Fs) (q : ∀ v H', MadeP C H H1 Fs v H' → Q v H') :
    ∀ x dx, H2 x = none → H2 dx = none → dx ≠ x → initSp C A (.ref x :: vs) (upd (upd H2 dx (.own x)) x (.ins C dx [])) (fun v H3 => v = .non ∧ Q (.ref x) H3) E := fun x dx hx hd hne => by
  have hBx : B x = none := le_none s.lo hx
  have hBd : B dx = none := le_none s.lo hd
  refine ⟨x, dx, vs, B, Fs, rfl, upd_same, hBx, (s.lo.mut hBd).mut hBx, h, fun fs B' H' t hp hn hf => ⟨rfl, q _ _ ⟨x, dx, fs, B', rfl, s.same.free hx, hn, ⟨fun a u ha => ?_, s.up.trans t.up, t.lo, fun a hb hh => t.non a (s.non a hb hh) ?_⟩, hp, hf⟩⟩⟩
  · have h2 := s.same a u ha
    refine t.same a u (fun q => by rw [List.mem_singleton.mp q, hx] at h2; cases h2) ?_
    rw [upd_ne (ne_of_none h2 hx), upd_ne (ne_of_none h2 hd)]
    exact h2
  · have h2 := same_some s.same hh
    by_cases q1 : a = x
    · rw [q1, upd_same]; simp
    · rw [upd_ne q1]
      by_cases q2 : a = dx
      · rw [q2, upd_same]; simp
      · rw [upd_ne q2]
        exact h2
theorem we_make {C : Addr} {A : List V → Hp → (List (Str × V) → Hp → Prop) → Prop} {k j : Nat} {n : Str} {Fs : List (Str × V) → Hp → Prop} {Ps : List Pd} {p : Pos} {es : List Expr} (c : C8.Mak X.prog X.w X.K X.mg X.base k n C (initSp C A) []) (hr : Room j X.A) (ha : EvA X (e :: es) σ H Ps)
    (h : ∀ vs B, Le H B → Holds Ps vs B → A vs B Fs) (hk : k + 1 ≤ j := by decide) (hg : Gl X n := by rfl) (hdb : (n == ("__debug__" : Str)) = false := by decide)
    (he : starEach (e :: es) X.env = (false, eval e X.env) :: starEach es X.env := by rfl) (hpl : (backTo pos (starEach es X.env)).any (·.1) = false := by rfl) : ∀ H1, Le H H1 → WE X (.Call (.Name n p) (e :: es) [] pos) σ H1 (MadeP C H H1 Fs) := fun H1 l => by
  obtain ⟨t, pt, ka⟩ := ha
  refine .of (C8.pe_mk c hr hk hg pt hdb he hpl) ?_
  refine ka H1 l _ fun vs B H2 s hs => ?_
  show ∀ x dx, _ → _ → _ → initSp C A (.ref x :: (vs ++ [])) _ _ _
  rw [List.append_nil]
  exact made_of s (h vs B s.up hs) fun _ _ z => z
theorem MadeP.pd {C : Addr} {H H1 : Hp} {Fs : List (Str × V) → Hp → Prop} (hP : ∀ p dx fs B', B' p = none → Fs fs B' → P.p (.ref p) (upd B' p (.ins C dx fs))) {v : V} {H2 : Hp} (m : MadeP C H H1 Fs v H2) : ∃ B, Stp H H1 B H2 ∧ P.p v B := by
  obtain ⟨p, dx, fs, B', rfl, h1, h2, s, h3, h4⟩ := m
  exact ⟨_, s.own h1 h3 h2, hP p dx fs B' h2 h4⟩
theorem ev_make {C : Addr} {A : List V → Hp → (List (Str × V) → Hp → Prop) → Prop} {k j : Nat} {n : Str} {Fs : List (Str × V) → Hp → Prop} {Ps : List Pd} {p : Pos} {es : List Expr} (c : C8.Mak X.prog X.w X.K X.mg X.base k n C (initSp C A) []) (hr : Room j X.A) (ha : EvA X (e :: es) σ H Ps)
    (h : ∀ vs B, Le H B → Holds Ps vs B → A vs B Fs) (hP : ∀ p dx fs B', B' p = none → Fs fs B' → P.p (.ref p) (upd B' p (.ins C dx fs))) (hk : k + 1 ≤ j := by decide) (hg : Gl X n := by rfl) (hdb : (n == ("__debug__" : Str)) = false := by decide)
    (he : starEach (e :: es) X.env = (false, eval e X.env) :: starEach es X.env := by rfl) (hpl : (backTo pos (starEach es X.env)).any (·.1) = false := by rfl) : EvP X (.Call (.Name n p) (e :: es) [] pos) σ H P :=
  fun H1 l => (we_make c hr ha h hk hg hdb he hpl H1 l).mono fun v H2 m => m.pd hP
/-- name = e, by e's own judgement -/
theorem ws_setW {rest : List Stmt} {D : Ends} {i : Nat} {n : Str} {pos' : Pos} {Q' : VK} (h : WE X e σ H Q') (nd : X.N.Nodup) (k : ∀ v H', Q' v H' → WSs X rest D (σ.set i (some v)) H') (hi : X.N[i]? = some n := by rfl) (hx : Loc X.env.scope n := by first | exact Or.inl rfl | exact Or.inr rfl)
    (hs : swapsWith e (some (.Name n pos')) pos.line X.env = pure false := by rfl) (hf : X.fn n = true ∨ X.env.scope.names.lookup n = some .local := by first | exact .inl rfl | exact .inr rfl) : WSs X (.Assign [.Name n pos'] e pos :: rest) D σ H :=
  ws_cons (ps_set nd hi hx pe_w hs hf) (h.mono k)
theorem ws_exprW {rest : List Stmt} {D : Ends} {Q' : VK} (h : WE X e σ H Q') (k : ∀ v H', Q' v H' → WSs X rest D σ H') (hs : swapsWith e none pos.line X.env = pure false := by rfl) : WSs X (.Expr e pos :: rest) D σ H := ws_cons (ps_expr pe_w hs) (h.mono k)
theorem ws_retW {rest : List Stmt} {D : Ends} {Q' : VK} (h : WE X e σ H Q') (k : ∀ v H', Q' v H' → D.rt v H') : WSs X (.Return (some e) pos :: rest) D σ H := ws_cons (ps_ret pe_w) (h.mono k)
end

/-! ### dicts of data, by texts -/
def KvD (K : PySem.W.Frag) (H : Hp) : List (Key × V) → List (Str × PyData) → Prop
  | [], [] => True
  | (k, v) :: r, (s, d) :: t => k = .inr s ∧ Dp K H v d ∧ KvD K H r t
  | _, _ => False
theorem KvD.le {K : PySem.W.Frag} {H H' : Hp} (e : Le H H') : ∀ {kvs : List (Key × V)} {kds : List (Str × PyData)}, KvD K H kvs kds → KvD K H' kvs kds
  | [], [], _ => trivial
  | (_, _) :: _, (_, _) :: _, h => ⟨h.1, e.dp h.2.1, KvD.le e h.2.2⟩
  | [], _ :: _, h => h.elim
  | _ :: _, [], h => h.elim
theorem KvD.keys {K : PySem.W.Frag} {H : Hp} : ∀ {kvs : List (Key × V)} {kds : List (Str × PyData)}, KvD K H kvs kds → kvs.map (·.1) = (kds.map (·.1)).map Sum.inr
  | [], [], _ => rfl
  | (_, _) :: _, (_, _) :: _, h => by
    rw [List.map_cons, List.map_cons, List.map_cons, KvD.keys h.2.2, h.1]
  | [], _ :: _, h => h.elim
  | _ :: _, [], h => h.elim
theorem KvD.len {K : PySem.W.Frag} {H : Hp} {kvs : List (Key × V)} {kds : List (Str × PyData)} (h : KvD K H kvs kds) : kvs.length = kds.length := by
  have e := congrArg List.length h.keys
  rw [List.length_map, List.length_map, List.length_map] at e
  exact e
theorem KvD.val {K : PySem.W.Frag} {H : Hp} {z : Str} {d : PyData} : ∀ {kvs : List (Key × V)} {kds : List (Str × PyData)}, KvD K H kvs kds → kds.lookup z = some d → ∃ v, valV kvs (Sum.inr z) = some v ∧ Dp K H v d
  | [], [], _, h => by simp at h
  | (k, v) :: r, (s, d') :: t, h, hl => by
    obtain ⟨h1, h2, h3⟩ := h
    subst h1
    by_cases q : z = s
    · subst q
      rw [List.lookup_cons, beq_self_eq_true] at hl
      cases hl
      exact ⟨v, valV_pos rfl, h2⟩
    · rw [List.lookup_cons, beq_eq_false_iff_ne.mpr q] at hl
      obtain ⟨u, e, hu⟩ := KvD.val h3 hl
      exact ⟨u, by rw [valV_neg (fun e => q (Sum.inr.inj e).symm)]; exact e, hu⟩
  | [], _ :: _, h, _ => h.elim
  | _ :: _, [], h, _ => h.elim
theorem KvD.isS {K : PySem.W.Frag} {H : Hp} {z : Str} : ∀ {kvs : List (Key × V)} {kds : List (Str × PyData)}, KvD K H kvs kds → (valV kvs (Sum.inr z)).isSome = decide (z ∈ kds.map (·.1))
  | [], [], _ => rfl
  | (k, v) :: r, (s, d') :: t, h => by
    obtain ⟨h1, h2, h3⟩ := h
    subst h1
    by_cases q : z = s
    · subst q
      rw [valV_pos rfl]
      simp
    · rw [valV_neg (fun e => q (Sum.inr.inj e).symm), KvD.isS h3]
      simp [q]
  | [], _ :: _, h => h.elim
  | _ :: _, [], h => h.elim
theorem KvD.app {K : PySem.W.Frag} {H : Hp} {z : Str} {v : V} {d : PyData} (hv : Dp K H v d) : ∀ {kvs : List (Key × V)} {kds : List (Str × PyData)}, KvD K H kvs kds → KvD K H (kvs ++ [(.inr z, v)]) (kds ++ [(z, d)])
  | [], [], _ => ⟨rfl, hv, trivial⟩
  | (_, _) :: _, (_, _) :: _, h => ⟨h.1, h.2.1, KvD.app hv h.2.2⟩
  | [], _ :: _, h => h.elim
  | _ :: _, [], h => h.elim
/-- a dict of data -/
def Pd.kv (K : PySem.W.Frag) (kds : List (Str × PyData)) : Pd := ⟨fun x H => ∃ a kvs, x = .ref a ∧ Rd H a (.dK kvs) ∧ KvD K H kvs kds, fun e ⟨a, kvs, h1, h2, h3⟩ => ⟨a, kvs, h1, e.dk h2, h3.le e⟩⟩
/-- at the place a -/
def KvAt (K : PySem.W.Frag) (H : Hp) (a : Addr) (kds : List (Str × PyData)) : Prop := ∃ kvs, Rd H a (.dK kvs) ∧ KvD K H kvs kds
theorem KvAt.le {K : PySem.W.Frag} {H H' : Hp} {a : Addr} {kds : List (Str × PyData)} (e : Le H H') (h : KvAt K H a kds) : KvAt K H' a kds := let ⟨kvs, h1, h2⟩ := h; ⟨kvs, e.dk h1, h2.le e⟩
section
variable {X : Cx} {e a b c o : Expr} {σ : L2.St} {H H' : Hp} {P P1 P2 : Pd} {v w x y : V} {d d1 d2 : PyData} {ds ds1 ds2 : List PyData} {pos p2 : Pos}
theorem ev_kv {q : Addr} {kds : List (Str × PyData)} (h : Ev X e σ H (.ref q)) (k : KvAt X.K H q kds) : EvP X e σ H (Pd.kv X.K kds) := h.imp fun u H' l (p : u = _) => by
  obtain ⟨kvs, h1, h2⟩ := k
  exact ⟨q, kvs, p, l.dk h1, h2.le l⟩
theorem ed_get {q : Addr} {kds : List (Str × PyData)} {z : Str} (ha : Ev X a σ H (.ref q)) (hq : KvAt X.K H q kds) (hb : Ev X b σ H (.str z)) (hd : kds.lookup z = some d) (hu : X.A.units + 1 < cLine) (hs : NoSl b := by exact fun _ _ => rfl) : EvD X (.Subscript a b pos) σ H d := by
  obtain ⟨kvs, h1, h2⟩ := hq
  obtain ⟨v, e, hv⟩ := h2.val hd
  exact ev_d (ev_get ha h1 hb e hu hs) hv
theorem et_inK {q : Addr} {kds : List (Str × PyData)} {z : Str} {k : Bool} (ha : Ev X a σ H (.str z)) (hb : Ev X b σ H (.ref q)) (hq : KvAt X.K H q kds) (hk : decide (z ∈ kds.map (·.1)) = k) (hu : X.A.units + 1 < cLine) (hm : behindInMarks .In b = false := by rfl) : EvT X (.Compare a [.In] [b] pos) σ H k := by
  obtain ⟨kvs, h1, h2⟩ := hq
  exact et_ind ha hb h1 (by rw [h2.isS, hk]) hu (h1 := hm)
theorem et_ninK {q : Addr} {kds : List (Str × PyData)} {z : Str} {k : Bool} (ha : Ev X a σ H (.str z)) (hb : Ev X b σ H (.ref q)) (hq : KvAt X.K H q kds) (hk : (!decide (z ∈ kds.map (·.1))) = k) (hu : X.A.units + 1 < cLine) (hm : behindInMarks .NotIn b = false := by rfl) : EvT X (.Compare a [.NotIn] [b] pos) σ H k := by
  obtain ⟨kvs, h1, h2⟩ := hq
  exact et_nind ha hb h1 (by rw [h2.isS, hk]) hu (h1 := hm)
end
/-! ### sorting -/
theorem lt_irr : ∀ l : List Nat, ltCps l l = false
  | [] => rfl
  | a :: r => by simp [ltCps, lt_irr r]
theorem lt_asym : ∀ {a b : List Nat}, ltCps a b = true → ltCps b a = false
  | [], [], h => by cases h
  | [], _ :: _, _ => rfl
  | _ :: _, [], h => by cases h
  | a :: r, b :: t, h => by
    simp only [ltCps, Bool.or_eq_true, decide_eq_true_eq, Bool.and_eq_true, beq_iff_eq] at h
    simp only [ltCps, Bool.or_eq_false_iff, decide_eq_false_iff_not, Bool.and_eq_false_iff, beq_eq_false_iff_ne]
    rcases h with h | ⟨h1, h2⟩
    · exact ⟨by omega, .inl (by omega)⟩
    · exact ⟨by omega, .inr (lt_asym h2)⟩
theorem le_anti : ∀ {a b : List Nat}, ltCps a b = false → ltCps b a = false → a = b
  | [], [], _, _ => rfl
  | [], _ :: _, h, _ => by cases h
  | _ :: _, [], _, h => by cases h
  | a :: r, b :: t, h, g => by
    simp only [ltCps, Bool.or_eq_false_iff, decide_eq_false_iff_not, Bool.and_eq_false_iff, beq_eq_false_iff_ne] at h g
    have e : a = b := by omega
    subst e
    rcases h.2 with q | q
    · exact absurd rfl q
    rcases g.2 with q' | q'
    · exact absurd rfl q'
    rw [le_anti q q']
theorem le_tr : ∀ {a b c : List Nat}, ltCps b a = false → ltCps c b = false → ltCps c a = false
  | [], _, [], _, _ => rfl
  | [], _, _ :: _, _, _ => rfl
  | _ :: _, [], _, h, _ => by cases h
  | _ :: _, _ :: _, [], _, h => by cases h
  | a :: r, b :: t, c :: u, h, g => by
    simp only [ltCps, Bool.or_eq_false_iff, decide_eq_false_iff_not, Bool.and_eq_false_iff, beq_eq_false_iff_ne] at h g ⊢
    refine ⟨by omega, ?_⟩
    by_cases e : c = a
    · subst e
      have e2 : b = c := by omega
      subst e2
      rcases h.2 with q | q
      · exact absurd rfl q
      rcases g.2 with q' | q'
      · exact absurd rfl q'
      exact .inr (le_tr q q')
    · exact .inl e
/-- texts in order -/
def leS (a b : Str) : Prop := ltCps b.cps.toList a.cps.toList = false
theorem leS_anti {a b : Str} (h : leS a b) (g : leS b a) : a = b := by
  have e : a.cps.toList = b.cps.toList := le_anti g h
  cases a
  cases b
  simp at e
  rw [e]
theorem leS_tr {a b c : Str} (h : leS a b) (g : leS b c) : leS a c := le_tr h g
theorem rising_pw : ∀ {l : List Str} {p : Str}, risingS p l = true → (p :: l).Pairwise leS
  | [], _, _ => by simp
  | x :: r, p, h => by
    simp only [risingS, Bool.and_eq_true, Bool.not_eq_true'] at h
    have ih := rising_pw h.2
    refine List.pairwise_cons.mpr ⟨fun y hy => ?_, ih⟩
    rcases List.mem_cons.mp hy with e | e
    · rw [e]
      exact h.1
    · exact leS_tr h.1 ((List.pairwise_cons.mp ih).1 y e)
theorem sorted_pw {l : List Str} (h : sortedS l = true) : l.Pairwise leS := by
  cases l with
  | nil => exact List.Pairwise.nil
  | cons x r => exact rising_pw h
theorem pw_uniq : ∀ {l1 l2 : List Str}, l1.Perm l2 → l1.Pairwise leS → l2.Pairwise leS → l1 = l2
  | [], l2, p, _, _ => (List.nil_perm.mp p).symm
  | a :: r1, l2, p, h1, h2 => by
    cases l2 with
    | nil => exact absurd (p.length_eq) (by simp)
    | cons b r2 =>
      have e : a = b := by
        rcases List.mem_cons.mp (p.mem_iff.mp (List.mem_cons_self ..)) with q | q
        · exact q
        · rcases List.mem_cons.mp (p.mem_iff.mpr (List.mem_cons_self ..)) with q' | q'
          · exact q'.symm
          · exact leS_anti ((List.pairwise_cons.mp h1).1 b q') ((List.pairwise_cons.mp h2).1 a q)
      subst e
      rw [pw_uniq (List.perm_cons a |>.mp p) (List.pairwise_cons.mp h1).2 (List.pairwise_cons.mp h2).2]
def insS (x : Str) : List Str → List Str
  | [] => [x]
  | y :: r => if ltCps y.cps.toList x.cps.toList = true then y :: insS x r else x :: y :: r
def sortS : List Str → List Str
  | [] => []
  | x :: r => insS x (sortS r)
theorem insS_perm (x : Str) : ∀ l : List Str, (insS x l).Perm (x :: l)
  | [] => .refl _
  | y :: r => by
    unfold insS
    split
    · exact ((insS_perm x r).cons y).trans (.swap x y r)
    · exact .refl _
theorem sortS_perm : ∀ l : List Str, (sortS l).Perm l
  | [] => .refl _
  | x :: r => (insS_perm x _).trans ((sortS_perm r).cons x)
theorem insS_pw (x : Str) : ∀ {l : List Str}, l.Pairwise leS → (insS x l).Pairwise leS
  | [], _ => by simp [insS]
  | y :: r, h => by
    have h1 := List.pairwise_cons.mp h
    unfold insS
    split
    · rename_i q
      refine List.pairwise_cons.mpr ⟨fun z hz => ?_, insS_pw x h1.2⟩
      rcases List.mem_cons.mp ((insS_perm x r).mem_iff.mp hz) with e | e
      · rw [e]
        exact lt_asym q
      · exact h1.1 z e
    · rename_i q
      have q' : leS x y := by unfold leS; simpa using q
      refine List.pairwise_cons.mpr ⟨fun z hz => ?_, h⟩
      rcases List.mem_cons.mp hz with e | e
      · rw [e]
        exact q'
      · exact leS_tr q' (h1.1 z e)
theorem sortS_pw : ∀ l : List Str, (sortS l).Pairwise leS
  | [] => List.Pairwise.nil
  | x :: r => insS_pw x (sortS_pw r)
theorem sortS_eq {zs ss : List Str} (p : zs.Perm ss) (h : sortedS zs = true) : zs = sortS ss := pw_uniq (p.trans (sortS_perm ss).symm) (sorted_pw h) (sortS_pw ss)
theorem sortS_congr {a b : List Str} (p : a.Perm b) : sortS a = sortS b := pw_uniq ((sortS_perm a).trans (p.trans (sortS_perm b).symm)) (sortS_pw a) (sortS_pw b)
theorem sortS_inj {a b : List Str} (h : sortS a = sortS b) : a.Perm b := ((sortS_perm a).symm.trans (by rw [h])).trans (sortS_perm b)
theorem sortS_idem (a : List Str) : sortS (sortS a) = sortS a := sortS_congr (sortS_perm a)
theorem mem_sortS {a : List Str} {x : Str} : x ∈ sortS a ↔ x ∈ a := (sortS_perm a).mem_iff
theorem sortS_len (a : List Str) : (sortS a).length = a.length := (sortS_perm a).length_eq
theorem sortS_nodup {a : List Str} : (sortS a).Nodup ↔ a.Nodup := (sortS_perm a).nodup_iff
end K57

set_option Elab.async false
set_option linter.all false
set_option maxRecDepth 100000
set_option maxHeartbeats 4000000
/-! ZT: dict comprehensions, len(set(..)), isinstance of several. -/
namespace K57
open PySem PySem.Spec PyProof.Rows L2
/-- the dict at D so far -/
structure Ad (K : PySem.W.Frag) (B H1 : Hp) (D : Addr) (kds : List (Str × PyData)) (H' : Hp) : Prop where
  ex : ∃ B' kvs, Same H1 H' ∧ Le B B' ∧ Le B' H' ∧ (∀ a, B a = none → H1 a ≠ none → B' a = none) ∧ B' D = none ∧ H' D = some (.dK kvs) ∧ KvD K B' kvs kds
theorem Ad.start {K : PySem.W.Frag} {B H1 : Hp} {D : Addr} (l : Le B H1) (hD : H1 D = none) : Ad K B H1 D [] (upd H1 D (.dK [])) :=
  ⟨B, [], same_new hD, Le.refl B, l.mut (le_none l hD), fun _ h _ => h, le_none l hD, upd_same, trivial⟩
theorem Ad.le {K : PySem.W.Frag} {B H1 H' : Hp} {D : Addr} {ds : List (Str × PyData)} (a : Ad K B H1 D ds H') : Le B H' := let ⟨_, _, _, h2, h3, _⟩ := a.ex; h2.trans h3
theorem Ad.same {K : PySem.W.Frag} {B H1 H' : Hp} {D : Addr} {ds : List (Str × PyData)} (a : Ad K B H1 D ds H') : Same H1 H' := let ⟨_, _, h1, _⟩ := a.ex; h1
theorem Ad.step {K : PySem.W.Frag} {B H1 H' H2 : Hp} {D : Addr} {ds : List (Str × PyData)} (a : Ad K B H1 D ds H') (s : Same H' H2) : Ad K B H1 D ds H2 := by
  obtain ⟨B', acc, h1, h2, h3, h4, h5, h6, h7⟩ := a.ex
  exact ⟨B', acc, h1.trans s, h2, h3.trans (le_of s), h4, h5, s _ _ h6, h7⟩
theorem Ad.app {K : PySem.W.Frag} {B H1 H' H2 B2 : Hp} {D : Addr} {kds : List (Str × PyData)} {v : V} {d : PyData} {z : Str} (a : Ad K B H1 D kds H') (hD : H1 D = none) (s : Stp B H' B2 H2) (p : Dp K B2 v d) (hz : z ∉ kds.map (·.1)) (hl : kds.length < 100000) :
    ∃ kvs, H2 D = some (.dK kvs) ∧ kvs.length < sizeLine ∧ Ad K B H1 D (kds ++ [(z, d)]) (upd H2 D (.dK (putK kvs (.inr z) v))) := by
  obtain ⟨B', kvs, h1, h2, h3, h4, h5, h6, h7⟩ := a.ex
  obtain ⟨B3, s3, l3⟩ := s.lift h2 h3
  have hn : B3 D = none := s3.non D h5 (by rw [h6]; simp)
  have hlen := h7.len
  have hno : valV kvs (Sum.inr z) = none := by
    have e := h7.isS (z := z)
    rw [decide_eq_false hz] at e
    exact Option.isSome_eq_false_iff.mp e |> Option.isNone_iff_eq_none.mp
  refine ⟨kvs, s.same _ _ h6, Nat.lt_of_lt_of_le (by rw [hlen]; exact hl) (by decide : 100000 ≤ sizeLine), B3, kvs ++ [(.inr z, v)], fun x o hx => ?_, h2.trans s3.up, s3.lo.mut hn, fun x hx hy => s3.non x (h4 x hx hy) (same_some h1 hy), hn, by rw [upd_same, putK_new _ hno], (h7.le s3.up).app (l3.dp p)⟩
  rw [upd_ne (ne_of_none hx hD)]
  exact s.same _ _ (h1 _ _ hx)
theorem Ad.fin {K : PySem.W.Frag} {B H1 H' : Hp} {D : Addr} {ds : List (Str × PyData)} (a : Ad K B H1 D ds H') (hD : H1 D = none) : ∃ B2, Stp B H1 B2 H' ∧ (Pd.kv K ds).p (.ref D) B2 := by
  obtain ⟨B', kvs, h1, h2, h3, h4, h5, h6, h7⟩ := a.ex
  refine ⟨upd B' D (.dK kvs), ⟨h1, h2.trans (Le.new h5), fun x o hx => ?_, fun x hx hy => ?_⟩, D, kvs, rfl, .inl upd_same, h7.le (Le.new h5)⟩
  · by_cases q : x = D
    · subst q
      rw [upd_same] at hx
      cases hx
      exact .inl h6
    · rw [upd_ne q] at hx
      exact h3 x o hx
  · rw [upd_ne (fun q => hy (by rw [q]; exact hD))]
    exact h4 x hx hy
section
variable {n : Nat} {G : Hp → Prop} {Y : Nat → Hp → V → Hp → Prop} {J : It}
theorem dc_it (w : Walk J n G Y) {g : TG} {tt : TT} {tk tv : TE} {vs : List Nat} {σ : L2.St} {H1 : Hp} {D : Addr} {Qd : Hp → Prop} (Pv : Nat → Hp → Prop) (h0 : Pv 0 (upd H1 D (.dK []))) (hG : ∀ i H, i ≤ n → Pv i H → G H)
    (hs : ∀ i x H H', i < n → Pv i H → Y i H x H' → g x (wipe σ vs) H' fun σ2 H2 => wipe σ2 vs = wipe σ vs ∧ tt σ2 H2 fun b H3 =>
      if b = true then tk σ2 H3 fun y H4 => tv σ2 H4 fun z H5 => ∃ kvs k, y = kV k ∧ H5 D = some (.dK kvs) ∧ kvs.length < sizeLine ∧ Pv (i + 1) (upd H5 D (.dK (putK kvs k z))) else Pv (i + 1) H3) (hd : ∀ H, Pv n H → Qd H) :
    ∃ W : Nat → Nat → Hp → Prop, (∃ m, W 0 m (upd H1 D (.dK []))) ∧ ∀ i m H, W i m H →
      (J.stop i H ∧ Qd H) ∨ (J.go i H ∧ ∃ Nx : Hp → Prop, (∀ H', Nx H' → ∃ m', m' < m ∧ W (i + 1) m' H') ∧ ∀ x H', J.yld i H x H' → g x (wipe σ vs) H' fun σ2 H2 => wipe σ2 vs = wipe σ vs ∧ tt σ2 H2 fun b H3 =>
        if b = true then tk σ2 H3 fun y H4 => tv σ2 H4 fun z H5 => ∃ kvs k, y = kV k ∧ H5 D = some (.dK kvs) ∧ kvs.length < sizeLine ∧ Nx (upd H5 D (.dK (putK kvs k z))) else Nx H3) := by
  refine ⟨fun i m H => m = n - i ∧ i ≤ n ∧ Pv i H, ⟨n, by simp, Nat.zero_le _, h0⟩, ?_⟩
  rintro i m H ⟨rfl, hi, p⟩
  have q := hG i H hi p
  by_cases hlt : i < n
  · refine .inr ⟨w.goes i H hlt q, Pv (i + 1), fun H' p' => ⟨n - (i + 1), by omega, rfl, hlt, p'⟩, fun x H' y => hs i x H H' hlt p (w.yields i H x H' hlt q y)⟩
  · have e : i = n := by omega
    subst e
    exact .inl ⟨w.stops H q, hd H p⟩
end
section
variable {X : Cx} {elt kx iter : Expr} {scope sc : Scope} {N : List Str} {σ : L2.St} {H : Hp} {pos px : Pos} {j : Nat} {x : Str} {e a b : Expr} {ds : List PyData}
/-- {x: e for x in list of texts} -/
theorem gen_dcL {as : List Str} {G : Str → PyData} (eN : X.N = N) (eS : X.env.scope = sc) (hc : X.calm = true) (hb : blkB N sc scope x j = true) (hi : EvD X iter σ H (.list (as.map PyData.str))) (hn : as.Nodup)
    (hk : ∀ z ∈ as, ∀ B, Le H B → ∀ (s : Shared) (H0 : Hp) (C : Addr) (cl : List (Str × Addr)) (fp : List Addr), Ev (Bk X scope s H0 C cl fp) kx ((wipe σ [j]).set j (some (.str z))) B (.str z))
    (he : ∀ z ∈ as, ∀ B, Le H B → ∀ (s : Shared) (H0 : Hp) (C : Addr) (cl : List (Str × Addr)) (fp : List Addr), EvD (Bk X scope s H0 C cl fp) elt ((wipe σ [j]).set j (some (.str z))) B (G z)) (hl : as.length ≤ 100000)
    (hs : ∀ x, foldedSetIterable iter X.env x = pure x) : EvP X (.DictComp kx elt [⟨.Name x px, iter, [], 0⟩] scope pos) σ H (Pd.kv X.K (as.map fun z => (z, G z))) := by
  obtain ⟨h1, h2, h3, h4⟩ := blk_of hb
  refine .of (pe_dc (own := [(x, j)]) hc (by rw [eN]; exact h1) (pi_list pe_w) (by rw [eN, eS]; exact h2) (pgB eN hb) (pts_tI (ifs := [])) (pe_tX (elt := kx)) (pe_tX (elt := elt)) hs) fun H1 l => ?_
  refine (hi H1 l).mono fun v H2 ⟨B, s, p⟩ => ?_
  obtain ⟨a, xs, e1, g1, g2⟩ := dp_list p
  have ex := dpa_strs_inv g2
  have hlen : xs.length = as.length := by rw [ex, List.length_map]
  refine ⟨a, e1, ⟨xs, s.lo.sqL g1⟩, fun D hD => dc_it walk_list (fun i H' => Ad X.K B H2 D ((as.take i).map fun z => (z, G z)) H') (Ad.start s.lo hD) (fun i H' _ ac => ac.le.sqL g1) (fun i x H' H'' hi ac ⟨e2, hx⟩ => ?_) (fun H' ac => ?_)⟩
  · subst e2
    rw [ex, List.getElem?_map] at hx
    obtain ⟨z, hz, rfl⟩ := Option.map_eq_some_iff.mp hx
    have hm : z ∈ as := List.mem_of_getElem? hz
    have hnot : z ∉ as.take i := fun q => by
      obtain ⟨m, hm', e⟩ := List.mem_iff_getElem.mp q
      rw [List.length_take] at hm'
      have e2 : as[m]'(by omega) = z := by rw [List.getElem_take] at e; exact e
      obtain ⟨hi', e3⟩ := List.getElem?_eq_some_iff.mp hz
      have := (List.getElem_inj hn).mp (e2.trans e3.symm)
      omega
    refine ⟨wipe_set (List.mem_singleton.mpr rfl), ?_⟩
    intro s0 H0 C cl fp
    refine WI.mono (ei_nil H'' (Le.refl _)) fun b H3 ⟨eb, s1⟩ => ?_
    subst eb
    rw [if_pos rfl]
    intro s0 H0 C cl fp
    refine (hk z hm B s.up s0 H0 C cl fp H3 (ac.step s1).le).mono fun y H4 ⟨B2, s2, (p2 : y = _)⟩ => ?_
    subst p2
    intro s0 H0 C cl fp
    refine (he z hm B s.up s0 H0 C cl fp H4 ((ac.step s1).step s2.same).le).mono fun y H5 ⟨B3, s3, p3⟩ => ?_
    obtain ⟨kvs, q1, q2, q3⟩ := ((ac.step s1).step s2.same).app (z := z) hD s3 p3 (by
      rw [List.map_map]
      show z ∉ (as.take i).map (fun z => z)
      rw [List.map_id']
      exact hnot) (by rw [List.length_map, List.length_take]; omega)
    refine ⟨kvs, .inr z, rfl, q1, q2, ?_⟩
    have et : (as.take (i + 1)).map (fun z => (z, G z)) = (as.take i).map (fun z => (z, G z)) ++ [(z, G z)] := by
      rw [List.take_succ, hz]
      simp
    show Ad X.K B H2 D ((as.take (i + 1)).map fun z => (z, G z)) _
    rw [et]
    exact q3
  · show ∃ B, _
    have ac' : Ad X.K B H2 D ((as.take xs.length).map fun z => (z, G z)) H' := ac
    rw [hlen, List.take_length] at ac'
    obtain ⟨B2, s2, p2⟩ := ac'.fin hD
    exact ⟨B2, s.trans s2, p2⟩
end
section
variable {P : Program} {w : World} {K : PySem.W.Frag} {mg : Str → Option Value} {base : Heap} {N : List Str} {qual : Str} {sc scope : Scope} {f : Addr} {cdv : Value} {A0 : Around} {outer : List Env} {s0 : Shared} {H0 : Hp} {E0 : XK}
variable {elt kx iter : Expr} {ifs : List Expr} {σ : L2.St} {H : Hp} {pos px : Pos} {x : Str}
theorem cb_dcL {as : List Str} {G : Str → PyData} (j : Nat) (hi : EvD (Cb P w K mg base N qual sc f cdv A0 outer s0 H0 E0) iter σ H (.list (as.map PyData.str))) (hn : as.Nodup)
    (hk : ∀ z ∈ as, ∀ B, Le H B → ∀ (s : Shared) (H1 : Hp) (C : Addr) (cl : List (Str × Addr)) (fp : List Addr), Ev (Bk (Cb P w K mg base N qual sc f cdv A0 outer s0 H0 E0) scope s H1 C cl fp) kx ((wipe σ [j]).set j (some (.str z))) B (.str z))
    (he : ∀ z ∈ as, ∀ B, Le H B → ∀ (s : Shared) (H1 : Hp) (C : Addr) (cl : List (Str × Addr)) (fp : List Addr), EvD (Bk (Cb P w K mg base N qual sc f cdv A0 outer s0 H0 E0) scope s H1 C cl fp) elt ((wipe σ [j]).set j (some (.str z))) B (G z)) (hl : as.length ≤ 100000)
    (hb : blkB N sc scope x j = true := by rfl) (hs : ∀ x, foldedSetIterable iter (Cb P w K mg base N qual sc f cdv A0 outer s0 H0 E0).env x = pure x := by intro _; rfl) : EvP (Cb P w K mg base N qual sc f cdv A0 outer s0 H0 E0) (.DictComp kx elt [⟨.Name x px, iter, [], 0⟩] scope pos) σ H (Pd.kv K (as.map fun z => (z, G z))) :=
  gen_dcL rfl rfl rfl hb hi hn hk he hl hs
end
end K57

set_option Elab.async false
set_option linter.all false
set_option maxRecDepth 100000
set_option maxHeartbeats 4000000
/-! ZL: set of several texts (the house's proof for one text, turned to texts that differ). -/
namespace K57
open PySem PySem.Spec PyProof.Rows
section
variable {prog : Program} {w : World} {A : Around} {R : Result → Shared → Prop} {I : Addr} {fp wr : List Addr} {G : Array GenState → Array GenState → Prop} {n : Nat} {P : Nat → Value → Prop} {St : Nat → Shared → Prop}
theorem loopN (W : WalksS prog w A.in1 I fp wr G n P St) (S : Addr) (hSf : S ∉ fp) (xs : List Str) (hsz : xs.length = n) (hnd : xs.Nodup) (hn1 : n ≤ 100)
    (hval : ∀ i v, P i v → ∃ t, v = .str (xs.getD i Str.empty) t) :
    ∀ (k i : Nat) (s : Shared), n - i = k → i ≤ n → St i s →
      s.heap.SetOf (PySem.strKind prog w) S (fun k' => (xs.take i).any (· == k')) i →
      (∀ s', Moved (S :: wr) G s s' → s'.heap.SetOf (PySem.strKind prog w) S (fun k' => (xs.take n).any (· == k')) n → R (.ok (.ret .none)) s') →
      codeAny (model prog w) A (.builtin "set.update.loop" ⟨[.ref S, .ref I], []⟩) R s := by
  have hSw : S ∉ wr := fun h => hSf (W.sub _ h)
  have hsub : ∀ b ∈ wr, b ∈ S :: wr := fun b hb => List.mem_cons_of_mem _ hb
  intro k
  induction k with
  | zero =>
    intro i s hk hi hst hS hR
    have hin : i = n := by omega
    subst hin
    refine codeAny_builtin PyProof.Rows.F.entry_set_update_loop ?_
    rw [Around.under_plainId PyProof.Rows.F.plain_set_update_loop _]
    show wpAny _ A.in1 (pyNext (.ref I) >>= _) _ _ s
    refine wpAny_bind (W.done s _ _ hst fun s' hm => ?_)
    show wpAny _ A.in1 (ret Value.none) _ _ s'
    exact wpAny_pure (hR s' (hm.mono hsub) (by
      obtain ⟨o, es, ep, t, ho, rest⟩ := hS
      exact ⟨o, es, ep, t, hm.heap S _ hSw ho, rest⟩))
  | succ k ih =>
    intro i s hk hi hst hS hR
    have hlt : i < n := by omega
    refine codeAny_builtin PyProof.Rows.F.entry_set_update_loop ?_
    rw [Around.under_plainId PyProof.Rows.F.plain_set_update_loop _]
    show wpAny _ A.in1 (pyNext (.ref I) >>= _) _ _ s
    refine wpAny_bind (W.item i s _ _ hlt hst fun v s' hP hst' hm => ?_)
    obtain ⟨t, rfl⟩ := hval i v hP
    have hS' : s'.heap.SetOf (PySem.strKind prog w) S (fun k' => (xs.take i).any (· == k')) i := by
      obtain ⟨o, es, ep, tb, ho, rest⟩ := hS
      exact ⟨o, es, ep, tb, hm.heap S _ hSw ho, rest⟩
    show wpAny _ A.in1 (holding [Value.str (xs.getD i Str.empty) t] (setAdd S (.str (xs.getD i Str.empty) t)) >>= _) _ _ s'
    refine wpAny_bind (wpAny_holding ?_)
    unfold setAdd
    refine wpAny_holding ?_
    refine wpAny_bind ((PySem.strKind prog w).pyHash (k := xs.getD i Str.empty) (strKind_is _ _ _ _) ?_)
    refine wpAny_setAddHashed_of (knd := PySem.strKind prog w) (s := { s' with toks := s'.toks + 1 }) (strKind_is _ _ _ _) rfl hS' (by unfold scanBound; omega) fun h' hsb hS2 => ?_
    have hSi : h'.SetOf (PySem.strKind prog w) S (fun k' => (xs.take (i + 1)).any (· == k')) (i + 1) := by
      have hx : xs[i]? = some (xs.getD i Str.empty) := by
        rw [List.getD_eq_getElem?_getD, List.getElem?_eq_getElem (by omega)]
        rfl
      have hnot : (xs.take i).any (· == xs.getD i Str.empty) = false := by
        rw [List.any_eq_false]
        intro y hy e
        obtain ⟨m, hm', e1⟩ := List.mem_iff_getElem.mp hy
        rw [List.length_take] at hm'
        have e2 : xs[m]'(by omega) = y := by rw [List.getElem_take] at e1; exact e1
        obtain ⟨hi', e3⟩ := List.getElem?_eq_some_iff.mp hx
        have e4 : y = xs.getD i Str.empty := eq_of_beq e
        have := (List.getElem_inj hnd).mp ((e2.trans e4).trans e3.symm)
        omega
      refine SetOf_congr hS2 (fun k' => ?_) (by rw [hnot]; rfl)
      rw [List.take_succ, hx, List.any_append]
      congr 1
      show decide (k' = xs.getD i Str.empty) = ([xs.getD i Str.empty].any (· == k'))
      rw [List.any_cons, List.any_nil, Bool.or_false]
      by_cases e : k' = xs.getD i Str.empty
      · rw [decide_eq_true e, e]
        exact (beq_self_eq_true _).symm
      · rw [decide_eq_false e]
        exact (beq_eq_false_iff_ne.mpr fun h' => e h'.symm).symm
    refine wpAny_pure ⟨plainId_quiet PyProof.Rows.F.plain_set_update_loop _, ih (i + 1) _ (by omega) hlt (W.frame _ s' _ _ hst' (Nat.le_succ _) fun b hb o e => ?_) hSi fun s'' hm'' hS'' => ?_⟩
    · rw [hsb.2 b (fun h : b = S => hSf (by rw [← h]; exact hb))]; exact e
    · refine hR s'' (Moved.trans W.gtrans ((hm.mono hsub).then_heap (Nat.le_succ _) fun b o hb e => ?_) hm'') hS''
      rw [hsb.2 b (fun h : b = S => hb (by rw [h]; exact List.mem_cons_self))]; exact e
end
section
variable {prog : Program} {w : World} {A : Around} {E : Value → Shared → Prop} {s : Shared}
theorem call_set_tupN {l : Addr} {items : Array Value} {xs : List Str} {Q : Value → Shared → Prop}
    (hh : A.handled = none) (hl : s.heap.IsTuple l items) (hi : PyProof.Rows.StrsAre items.toList xs) (hnd : xs.Nodup) (hn1 : xs.length ≤ 100)
    (h : ∀ (h' : Heap) (tk : Nat), h'.SetOf (PySem.strKind prog w) s.heap.objs.size (fun k' => (xs.take items.size).any (· == k')) items.size →
      (∀ b o, b < s.heap.objs.size → s.heap.get? b = some o → h'.get? b = some o) → Q (.ref s.heap.objs.size) { s with heap := h', toks := tk }) :
    wpAny (model prog w) A (call (.type "set") [.ref l]) Q E s := by
  obtain ⟨c, tl, hmro⟩ := PySem.F.called_set.mro
  have hmade := PySem.F.called_set.made
  have hsub := PySem.F.called_set.sub
  refine wpAny_call (codeAny_of_tree ?_)
  show wpAny _ _ (callAny (.type "set") _) _ _ _
  refine wpAny_pure ⟨Code.quiet_builtin _ (by decide +kernel), codeAny_builtin PySem.F.entry_type_call ?_⟩
  rw [Around.under_plain (weight_type_call_type "set" [.ref l] []) rfl]
  have h1 := PySem.F.called_set.notType
  have h2 := PySem.F.called_set.canCreate
  have hct := PySem.F.typeCall_set_1 (.ref l)
  repeat (any_goals (first | assumption | wp_step))

  refine codeAny_mono (code_set_new_1 (.ref l) (E := E) (Q₁ := fun obj s₁ => ∃ led : Bool, obj = .ref s.heap.objs.size ∧ s₁ = { s with heap := s.heap.push { cls := .type "set", dict := none, data := .set #[] 0 (.fresh 0 0 led) } }) fun led => ⟨led, rfl, rfl⟩) fun r s₁ hr => ?_
  cases r with
  | error e => exact hr
  | ok fl =>
    cases fl with
    | ret obj =>
      obtain ⟨led, rfl, rfl⟩ := hr
      have hS : (s.heap.push { cls := .type "set", dict := none, data := .set #[] 0 (.fresh 0 0 led) }).get? s.heap.objs.size = some { cls := .type "set", dict := none, data := .set #[] 0 (.fresh 0 0 led) } := Heap.get?_push_size _ rfl
      have hT : Shared.TypeIs { s with heap := s.heap.push { cls := .type "set", dict := none, data := .set #[] 0 (.fresh 0 0 led) } } (.ref s.heap.objs.size) "set" := ⟨_, hS, rfl⟩
      have hli := PySem.F.called_set.init.lookup
      have hbi := PySem.F.called_set.init.bind (.ref s.heap.objs.size)
      repeat (any_goals (first | assumption | wp_step))

      refine codeAny_mono (codeAny_call_builtin (R := wants (fun r s₂ => r = .none ∧ ∃ h' tk, s₂ = { s with heap := h', toks := tk } ∧
          h'.SetOf (PySem.strKind prog w) s.heap.objs.size (fun k' => (xs.take items.size).any (· == k')) items.size ∧
          (∀ b o, b < s.heap.objs.size → s.heap.get? b = some o → h'.get? b = some o)) E) PySem.F.called_set.init.plain PySem.F.entry_set_init (check_set_init_1 hT ?_)) fun r₂ s₂ hr₂ => ?_
      · obtain ⟨ol, hol, hcl, nl, hdl⟩ := hl
        obtain ⟨ocls, odict, odata, oslots⟩ := ol
        simp only at hcl hdl
        subst hcl; subst hdl
        have hol' : (s.heap.push { cls := .type "set", dict := none, data := .set #[] 0 (.fresh 0 0 led) }).get? l = some { cls := .type "tuple", dict := odict, data := .seq items nl, slots := oslots } := Heap.get?_push_of_some _ hol
        have hsls := PySem.F.sub_tuple_set
        have hslf := PySem.F.sub_tuple_frozenset
        have hne : (Value.type "tuple" == Value.type "dict") = false := by decide
        have hl1 : (s.heap.push { cls := .type "set", dict := none, data := .set #[] 0 (.fresh 0 0 led) }).IsTuple l items := ⟨_, hol', rfl, nl, rfl⟩
        unfold Builtin.«set.__init__» noKeywords Builtin.Frozenset.updateFrom
        generalize hPI : pyIter = PI
        wp_walk
        subst hPI

        refine wpAny_pyIter_tuple hl1 ?_
        refine wpAny_bind (wpAny_runValue ?_)
        have hlS : l < s.heap.objs.size := Heap.lt_size hol
        have hh3 : A.in1.in1.in1.handled = none := by simp [hh]
        have hneI : l ≠ (s.heap.push { cls := .type "set", dict := none, data := .set #[] 0 (.fresh 0 0 led) }).objs.size := by
          rw [Heap.size_push]; exact Nat.ne_of_lt (Nat.lt_succ_of_lt hlS)
        have hSf : s.heap.objs.size ∉ [(s.heap.push { cls := .type "set", dict := none, data := .set #[] 0 (.fresh 0 0 led) }).objs.size, l] := by
          rw [Heap.size_push]; simp only [List.mem_cons, List.mem_singleton, List.not_mem_nil, or_false, not_or]
          exact ⟨Nat.ne_of_lt (Nat.lt_succ_self _), Nat.ne_of_gt hlS⟩
        have hsz : xs.length = items.size := by rw [← StrsAre.len_eq hi, Array.length_toList]
        have hval : ∀ (i : Nat) (v : Value), items[i]? = some v → ∃ t, v = .str (xs.getD i Str.empty) t := fun i v hv => SS.strs_at hi i v (by rw [Array.getElem?_toList]; exact hv)
        refine loopN ((Walks.tuple hh3 _ l hneI items).toS) s.heap.objs.size
          hSf xs hsz hnd (by rw [← hsz]; exact hn1) hval (items.size - 0) 0 _ (by omega) (Nat.zero_le _)
          ⟨⟨_, Heap.get?_push_size _ rfl, rfl, rfl⟩, (hl1.push _)⟩ ?hS0 ?hR
        case hS0 =>
          have hget : ((s.heap.push { cls := .type "set", dict := none, data := .set #[] 0 (.fresh 0 0 led) }).push { cls := .type "tuple_iterator", data := .fields #[.ref l, .int 0 0] }).get? s.heap.objs.size
              = some { cls := .type "set", dict := none, data := .set #[] 0 (.fresh 0 0 led) } := Heap.get?_push_of_some _ hS
          exact PyProof.Rows.SetOf_congr ((PyProof.Rows.setObjOf_fresh (knd := PySem.strKind prog w) led).setOf hget (by unfold scanBound; omega)) (fun _ => rfl) rfl
        case hR =>
          intro s' hm hS'
          obtain ⟨h', g', d', tk', os'⟩ := s'
          have eg : g' = s.gens := hm.gens
          have ed : d' = s.drawn := hm.drawn
          have eo : os' = s.os := hm.os
          subst eg; subst ed; subst eo
          show wpAny _ _ _ _ _ _
          refine wpAny_pure ?_
          show wpAny _ _ (ret Value.none) _ _ _
          refine wpAny_pure ⟨rfl, h', tk', rfl, hS', fun b o hb e => ?_⟩
          have hb1 : b ≠ s.heap.objs.size := Nat.ne_of_lt hb
          have hb2 : b ≠ (s.heap.push { cls := .type "set", dict := none, data := .set #[] 0 (.fresh 0 0 led) }).objs.size := by
            rw [Heap.size_push]; exact Nat.ne_of_lt (Nat.lt_succ_of_lt hb)
          exact hm.heap b o (by simp only [List.mem_cons, List.mem_singleton, List.not_mem_nil, or_false, not_or]; exact ⟨hb1, hb2⟩) (Heap.get?_push_of_some _ (Heap.get?_push_of_some _ e))

      · cases r₂ with
        | error e => exact hr₂
        | ok fl₂ =>
          cases fl₂ with
          | ret r =>
            obtain ⟨rfl, h', tk, rfl, hS', hk'⟩ := hr₂
            repeat (any_goals (first | assumption | wp_step))
            exact h _ _ hS' hk'
          | _ => exact hr₂.elim
    | _ => exact hr.elim

end
section
open L2
variable {X : Cx}
def tLenSetN (K : PySem.W.Frag) (ta : TE) : TE := fun σ H Q => ta σ H fun x H1 => ∃ l, ∃ xs : List Str, x = .ref l ∧ SqT K H1 l (xs.map V.str) ∧ xs.Nodup ∧ xs.length ≤ 100 ∧ Q (.int xs.length) H1
theorem pe_lenSetN {a : Expr} {ta : TE} {p p2 q pos : Pos} (hc : X.calm = true) (hg : Gl X "len") (hm : X.mg "len" = none) (hg2 : Gl X "set") (hm2 : X.mg "set" = none) (ha : PE X a ta)
    (na : starEach [a] X.env = (false, eval a X.env) :: starEach [] X.env := by rfl) : PE X (.Call (.Name "len" p) [.Call (.Name "set" p2) [a] [] q] [] pos) (tLenSetN X.K ta) := by
  refine ⟨fun pins s σ H Q I h => ?_⟩
  refine Call_ (ld_blt I hg hm PySem.boot_len ?_)
  refine PyProof.Rows.callWith_builtin1 (PyProof.Rows.args_cons ?_ rfl) rfl rfl
  refine Call_ (ld_blt I hg2 hm2 PyProof.Rows.boot_set ?_)
  refine PyProof.Rows.callWith_type1 (PyProof.Rows.args_cons (thn (ha.run pins s σ H _ I h) fun v s1 ⟨x, H1, I1, r1, q1⟩ => PyProof.Rows.args_nil ?_) na) na rfl
  obtain ⟨l, xs, rfl, hq, hnd, h1, q1⟩ := q1
  cases r1
  obtain ⟨its, r, pl, hz⟩ := I1.tuple hq
  have hl : its.toArray.size = xs.length := by rw [List.size_toArray, ← r.length, List.length_map]
  refine call_set_tupN (I1.ok.hd hc) pl (by simpa using L2.strsAre_of r) hnd h1 fun h' tk hS hk => ?_
  refine PyProof.Rows.args_nil ?_
  rw [hl] at hS
  obtain ⟨o, es, ep, t, ho, hex, hd, _, _, _, hf, hn⟩ := hS
  have I2 : Inv X pins σ H1 { s1 with heap := h', toks := tk } := I1.kept fun b o e => hk b o (Heap.lt_size e) e
  refine call_len_set ho hex hd hf (by rw [hn] <;> omega) ⟨.int xs.length, H1, I2.tok _, ⟨_, by rw [hn]⟩, q1⟩
theorem ev_lenSetS {a : Expr} {σ : L2.St} {H : Hp} {as : List Str} {p p2 q pos : Pos} (hc : X.calm = true) (hm : X.mg "len" = none) (hm2 : X.mg "set" = none) (h : EvD X a σ H (.tuple (as.map .str))) (hn : as.Nodup) (hl : as.length ≤ 100) (hg : Gl X "len" := by rfl) (hg2 : Gl X "set" := by rfl)
    (na : starEach [a] X.env = (false, eval a X.env) :: starEach [] X.env := by rfl) : Ev X (.Call (.Name "len" p) [.Call (.Name "set" p2) [a] [] q] [] pos) σ H (.int as.length) :=
  .of (pe_lenSetN hc hg hm hg2 hm2 pe_w na) fun H1 l => (h H1 l).mono fun v H2 ⟨B, s, p⟩ => by
    obtain ⟨a, xs, e1, g1, g2⟩ := dp_tuple p
    rw [dpa_strs_inv g2] at g1
    exact ⟨a, as, e1, s.lo.sqT g1, hn, hl, B, s, rfl⟩
end
end K57

set_option Elab.async false
set_option linter.all false
set_option maxRecDepth 100000
set_option maxHeartbeats 4000000
/-! ZW: words.py. -/
namespace K57
open PySem PySem.Spec PyProof.Rows L2
section
variable {P : Program} {w : World} {K : PySem.W.Frag} {mg : Str → Option Value} {base : Heap} {x qual m : Str} {st : Stmt} {f C : Addr} {N ps : List Str} {k : Nat} {A : List V → Hp → Pd → Prop}
/-- one body of a def that changes nothing -/
abbrev BodyP (P : Program) (w : World) (K : PySem.W.Frag) (mg : Str → Option Value) (base : Heap) (N : List Str) (qual : Str) (st : Stmt) (f : Addr) (k : Nat) (A : List V → Hp → Pd → Prop) : Prop :=
  ∀ (cdv : Value) (A0 : Around) (outer : List Env) (s : Shared) (H0 : Hp) (E : XK) (vs : List V) (B H : Hp) (R : Pd) (D : Ends), Room k (Cb P w K mg base N qual (defScope st) f cdv A0 outer s H0 E).A → Le B H → A vs B R → (∀ v B' H', Stp B H B' H' → R.p v B' → D.rt v H') →
      (∀ σ' B' H', Stp B H B' H' → R.p .non B' → D.nx σ' H') → WSs (Cb P w K mg base N qual (defScope st) f cdv A0 outer s H0 E) (defBody st) D (start N vs) H
abbrev BindH (ps : List Str) (x qual : Str) (st : Stmt) : Prop := ∀ (kV doc pm : Value) (an : Option Addr) (cdv ct : Value) (us : List Value), us.length = ps.length → bindArgs (PySem.W.fnOf x qual (defArgs st) (defBody st) (defScope st) .none kV doc pm an cdv ct) ⟨us, []⟩ = pure (ps.zip us)
theorem cal_pure (F : FdZ K x qual st [] [] f) (g : mg x = some (.ref f)) (S : FnScope N ps (defScope st)) (b : BindH ps x qual st) (len : ∀ vs B R, A vs B R → vs.length = ps.length) (body : BodyP P w K mg base N qual st f k A) : C8.Cal P w K mg base (k + 1) x (pureSp A) [] := by
  obtain ⟨fd, F⟩ := F
  exact ⟨f, fd, ps, [], fn_pure F S len body, g, F.kp, F.bindsN b, .nil⟩
theorem met_pure {m' : Str} (F : FdZ K m' qual st [] [] f) (c : Cls K C) (me : Meth K C m f) (S : FnScope N ps (defScope st)) (b : BindH ps m' qual st) (len : ∀ vs B R, A vs B R → vs.length = ps.length) (body : BodyP P w K mg base N qual st f k A) : C8.Met P w K mg base (k + 1) C m (pureSp A) [] := by
  obtain ⟨fd, F⟩ := F
  exact ⟨f, fd, ps, [], c, me, fn_pure F S len body, F.bindsN b, .nil⟩
end
section
variable {P : Program} {w : World} {K : PySem.W.Frag} {mg : Str → Option Value} {base : Heap} (T : Tx P K mg)
include T
def A_is_whole : List V → Hp → Pd → Prop := fun vs _ R => ∃ i, vs = [.int i] ∧ R = Pd.v (.bl true)
theorem cal_is_whole : C8.Cal P w K mg base 1 "is_whole" (pureSp A_is_whole) [] :=
  cal_pure T.d_is_whole T.g_is_whole ⟨rfl, rfl, rfl, by decide +kernel, rfl, by decide +kernel, by decide +kernel⟩ (fun _ _ _ _ _ _ us hl => match us, hl with | [_], _ => rfl) (N := ["value"]) (ps := ["value"]) (fun vs B R ⟨i, e, _⟩ => by rw [e]; rfl)
    fun cdv A0 outer s H0 E vs B H R D hr l ⟨i, e, eR⟩ q1 q2 => by
      subst e
      subst eR
      refine ws_ret (P := Pd.v (.bl true)) ?_ l q1
      refine ev_and (k := true) (j := true) ?_ fun _ => ?_
      · exact ev_isd (d := .int i) T.f_isinstance T.f_int (ev_d (ev_name (i := 0) rfl) (.int i))
      · exact ev_not (k := false) (ev_isd (d := .int i) T.f_isinstance T.f_bool (ev_d (ev_name (i := 0) rfl) (.int i)))
def A_is_number : List V → Hp → Pd → Prop := fun vs _ R => ∃ i lo hi, vs = [.int i, .int lo, .int hi] ∧ R = Pd.v (.bl (decide (lo ≤ i ∧ i ≤ hi)))
theorem cal_is_number : C8.Cal P w K mg base 2 "is_number" (pureSp A_is_number) [] :=
  cal_pure T.d_is_number T.g_is_number ⟨rfl, rfl, rfl, by decide +kernel, rfl, by decide +kernel, by decide +kernel⟩ (fun _ _ _ _ _ _ us hl => match us, hl with | [_, _, _], _ => rfl) (N := ["value", "low", "high"]) (ps := ["value", "low", "high"]) (fun vs B R ⟨i, lo, hi, e, _⟩ => by rw [e]; rfl)
    fun cdv A0 outer s H0 E vs B H R D hr l ⟨i, lo, hi, e, eR⟩ q1 q2 => by
      subst e
      subst eR
      refine ws_ret (P := Pd.v (.bl (decide (lo ≤ i ∧ i ≤ hi)))) ?_ l q1
      refine ev_eq (ev_and (k := true) (j := decide (lo ≤ i ∧ i ≤ hi)) ?_ fun _ => ?_) (by simp)
      · exact ev_call (cal_is_whole T) hr (ea_1 (ev_name (i := 0) rfl)) fun vs B _ h => by
          obtain ⟨v, rfl, p⟩ := holds1 h
          exact ⟨i, by rw [show v = _ from p], rfl⟩
      · exact ev_lele (ev_name (i := 1) rfl) (ev_name (i := 0) rfl) (ev_name (i := 2) rfl) rfl
/-- a text of letters -/
def okSign (c : Str) : Bool := !(Builtin.Str.occurrences "abcdefghijklmnopqrstuvwxyz" c 0 26 1).isEmpty
def okName (z : Str) : Bool := decide (1 ≤ z.length) && decide (z.length ≤ 8) && decide (z.cps.size ≤ 8) && (signs z).all okSign && z.cps.all (· < 0x110000)
def A_is_name : List V → Hp → Pd → Prop := fun vs _ R => ∃ z, vs = [.str z] ∧ okName z = true ∧ R = Pd.v (.bl true)
theorem cal_is_name : C8.Cal P w K mg base 1 "is_name" (pureSp A_is_name) [] :=
  cal_pure T.d_is_name T.g_is_name ⟨rfl, rfl, rfl, by decide +kernel, rfl, by decide +kernel, by decide +kernel⟩ (fun _ _ _ _ _ _ us hl => match us, hl with | [_], _ => rfl) (N := ["value", "sign"]) (ps := ["value"]) (fun vs B R ⟨i, e, _⟩ => by rw [e]; rfl)
    fun cdv A0 outer s H0 E vs B H R D hr l ⟨z, e, hz, eR⟩ q1 q2 => by
      subst e
      subst eR
      unfold okName at hz
      simp only [Bool.and_eq_true, decide_eq_true_eq] at hz
      obtain ⟨⟨⟨⟨h1, h2⟩, h3⟩, h4⟩, h5⟩ := hz
      obtain ⟨t8, g8⟩ := T.i_MOST_LETTERS
      obtain ⟨tl, gl⟩ := T.s_LETTERS
      refine ws_ifN (et_or2 (k := false) (j := false) ?_ fun _ => ?_) l fun H1 s1 => ?_
      · exact et_not (k := true) (et_v (ev_isd (d := .str z) T.f_isinstance T.f_str (ev_d (ev_name (i := 0) rfl) (.str z))))
      · exact et_not (k := true) ((et_lele (ev_int) (ev_lenS T.f_len (ev_name (i := 0) rfl) (by omega)) (ev_glob (v := .int 8) rfl g8 ⟨t8, rfl⟩) (by
          rw [decide_eq_true_eq]
          omega)))
      refine ws_ret (P := Pd.v (.bl true)) ?_ (l.trans (le_of s1)) fun v B' H' st => q1 v B' H' ((Stp.keep l s1).trans st)
      refine ev_eqd (d1 := .list []) (d2 := .list []) (by have := hr.un; omega) ?_ ed_nilL rfl rfl rfl
      refine ed_eq (EvL.toD (cb_lcS 1 (F := fun c => !okSign c) (G := PyData.str) (ev_name (i := 0) rfl) (fun c hc v B1 lb hp s1 H1 C cl fp => ei_one ?_) (fun c hc _ v B1 lb hp s1 H1 C cl fp => ?_) (by omega))) ?_
      · rw [dp_str hp]
        exact et_ninS (ev_name (i := 1) rfl) (ev_glob (v := .str "abcdefghijklmnopqrstuvwxyz") rfl gl ⟨tl, rfl⟩) (by
          show _ = !okSign c
          unfold okSign
          rw [Bool.not_not]
          rfl)
      · rw [dp_str hp]
        exact ev_d (ev_name (i := 1) rfl) (.str c)
      · rw [List.filter_eq_nil_iff.mpr fun c hc => by rw [List.all_eq_true.mp h4 c hc]; decide]
        rfl
end
end K57

set_option Elab.async false
set_option linter.all false
set_option maxRecDepth 100000
set_option maxHeartbeats 4000000
/-! ZS: membership, defs of several kinds, makes by their bodies. -/
namespace K57
open PySem PySem.Spec PyProof.Rows L2
theorem inV_str (z : Str) : ∀ ms : List Str, inV (.str z) (ms.map V.str) = decide (z ∈ ms)
  | [] => by simp [inV]
  | m :: r => by
    have ih := inV_str z r
    unfold inV at ih ⊢
    rw [List.map_cons, List.any_cons, ih]
    show ((m == z) || _) = _
    by_cases h : z = m
    · subst h
      simp
    · have h2 : (m == z) = false := beq_eq_false_iff_ne.mpr fun e => h e.symm
      rw [h2]
      simp [h]
theorem flat_str : ∀ ms : List Str, (ms.map V.str).all flatV = true
  | [] => rfl
  | _ :: r => by
    rw [List.map_cons, List.all_cons, flat_str r]
    rfl
section
variable {X : Cx} {e a b c o : Expr} {σ : L2.St} {H H' : Hp} {P P1 P2 : Pd} {v w x y : V} {d d1 d2 : PyData} {pos p2 : Pos} {z : Str} {ms : List Str} {k : Bool}
theorem hP_L : ∀ v H', Le H H' → (Pd.d X.K (.list (ms.map .str))).p v H' → ∃ q, v = .ref q ∧ (SqL X.K H' q (ms.map V.str) ∨ SqT X.K H' q (ms.map V.str)) := fun v H' _ p => by
  obtain ⟨a, xs, e, h1, h2⟩ := dp_list p
  rw [dpa_strs_inv h2] at h1
  exact ⟨a, e, .inl h1⟩
theorem hP_T : ∀ v H', Le H H' → (Pd.d X.K (.tuple (ms.map .str))).p v H' → ∃ q, v = .ref q ∧ (SqL X.K H' q (ms.map V.str) ∨ SqT X.K H' q (ms.map V.str)) := fun v H' _ p => by
  obtain ⟨a, xs, e, h1, h2⟩ := dp_tuple p
  rw [dpa_strs_inv h2] at h1
  exact ⟨a, e, .inr h1⟩
theorem et_inL (ha : Ev X a σ H (.str z)) (hb : EvD X b σ H (.list (ms.map .str))) (hk : decide (z ∈ ms) = k) (hm : behindInMarks .In b = false := by rfl) : EvT X (.Compare a [.In] [b] pos) σ H k :=
  et_in ha hb hP_L rfl (flat_str ms) (by rw [inV_str, hk]) hm
theorem et_ninL (ha : Ev X a σ H (.str z)) (hb : EvD X b σ H (.list (ms.map .str))) (hk : (!decide (z ∈ ms)) = k) (hm : behindInMarks .NotIn b = false := by rfl) : EvT X (.Compare a [.NotIn] [b] pos) σ H k :=
  et_nin ha hb hP_L rfl (flat_str ms) (by rw [inV_str, hk]) hm
theorem et_inT (ha : Ev X a σ H (.str z)) (hb : EvD X b σ H (.tuple (ms.map .str))) (hk : decide (z ∈ ms) = k) (hm : behindInMarks .In b = false := by rfl) : EvT X (.Compare a [.In] [b] pos) σ H k :=
  et_in ha hb hP_T rfl (flat_str ms) (by rw [inV_str, hk]) hm
theorem et_ninT (ha : Ev X a σ H (.str z)) (hb : EvD X b σ H (.tuple (ms.map .str))) (hk : (!decide (z ∈ ms)) = k) (hm : behindInMarks .NotIn b = false := by rfl) : EvT X (.Compare a [.NotIn] [b] pos) σ H k :=
  et_nin ha hb hP_T rfl (flat_str ms) (by rw [inV_str, hk]) hm
end
section
variable {P : Program} {w : World} {K : PySem.W.Frag} {mg : Str → Option Value} {base : Heap} {n qual : Str} {st : Stmt} {f C : Addr} {N ps : List Str} {k : Nat} {A : List V → Hp → (List (Str × V) → Hp → Prop) → Prop}
/-- a make, by the body of the __init__ -/
theorem mak_init (F : FdZ K "__init__" qual st [] [] f) (M : Mk K C f) (g : mg n = some (.ref C)) (S : FnScope N ps (defScope st)) (b : BindH ps "__init__" qual st) (len : ∀ vs B R, A vs B R → vs.length + 1 = ps.length)
    (body : ∀ (cdv : Value) (A0 : Around) (outer : List Env) (s : Shared) (H0 : Hp) (E : XK) (p dx : Addr) (args : List V) (B H : Hp) (Fs : List (Str × V) → Hp → Prop) (D : Ends), Room k (Cb P w K mg base N qual (defScope st) f cdv A0 outer s H0 E).A → H p = some (.ins C dx []) → B p = none → Le B H → A args B Fs →
      (∀ σ' fs B' H', StpX [p] B H B' H' → H' p = some (.ins C dx fs) → B' p = none → Fs fs B' → D.nx σ' H') → WSs (Cb P w K mg base N qual (defScope st) f cdv A0 outer s H0 E) (defBody st) D (start N (.ref p :: args)) H) : C8.Mak P w K mg base (k + 1) n C (initSp C A) [] := by
  obtain ⟨fd, F⟩ := F
  refine ⟨f, fd, ps, [], M, fn_w F S (fun vs H Q E ⟨p, dx, args, B, Fs, e, _, _, _, h, _⟩ => by rw [e, List.length_cons, len _ _ _ h]) fun cdv A0 outer s H0 vs H Q E hr ⟨p, dx, args, B, Fs, e, h1, h2, h3, h4, h5⟩ => ?_, g, F.bindsN b, .nil⟩
  subst e
  exact body cdv A0 outer s H0 E p dx args B H Fs _ hr h1 h2 h3 h4 fun σ' fs B' H' t1 t2 t3 t4 => h5 fs B' H' t1 t2 t3 t4
end
section
variable {P : Program} {w : World} {K : PySem.W.Frag} {mg : Str → Option Value} {base : Heap} {N : List Str} {qual : Str} {sc scope : Scope} {f : Addr} {cdv : Value} {A0 : Around} {outer : List Env} {s0 : Shared} {H0 : Hp} {E0 : XK} {e iter : Expr} {σ : L2.St} {B H : Hp} {P1 : Pd} {pos p2 px : Pos} {D : Ends} {rest body : List Stmt} {n : Str}
theorem cb_set (i : Nat) (h : EvP (Cb P w K mg base N qual sc f cdv A0 outer s0 H0 E0) e σ B P1) (l : Le B H) (k : ∀ v B' H', Stp B H B' H' → P1.p v B' → WSs (Cb P w K mg base N qual sc f cdv A0 outer s0 H0 E0) rest D (σ.set i (some v)) H') (nd : decide N.Nodup = true := by rfl) (hi : N[i]? = some n := by rfl) (hx : Loc sc n := by first | exact Or.inl rfl | exact Or.inr rfl)
    (hs : swapsWith e (some (.Name n px)) pos.line (Cb P w K mg base N qual sc f cdv A0 outer s0 H0 E0).env = pure false := by rfl) (hf : (Cb P w K mg base N qual sc f cdv A0 outer s0 H0 E0).fn n = true ∨ sc.names.lookup n = some .local := by first | exact .inl rfl | exact .inr rfl) : WSs (Cb P w K mg base N qual sc f cdv A0 outer s0 H0 E0) (.Assign [.Name n px] e pos :: rest) D σ H :=
  ws_set (X := (Cb P w K mg base N qual sc f cdv A0 outer s0 H0 E0)) h l (of_decide_eq_true nd) k hi hx hs hf
theorem cb_setW {Q' : VK} (i : Nat) (h : WE (Cb P w K mg base N qual sc f cdv A0 outer s0 H0 E0) e σ H Q') (k : ∀ v H', Q' v H' → WSs (Cb P w K mg base N qual sc f cdv A0 outer s0 H0 E0) rest D (σ.set i (some v)) H') (nd : decide N.Nodup = true := by rfl) (hi : N[i]? = some n := by rfl) (hx : Loc sc n := by first | exact Or.inl rfl | exact Or.inr rfl)
    (hs : swapsWith e (some (.Name n px)) pos.line (Cb P w K mg base N qual sc f cdv A0 outer s0 H0 E0).env = pure false := by rfl) (hf : (Cb P w K mg base N qual sc f cdv A0 outer s0 H0 E0).fn n = true ∨ sc.names.lookup n = some .local := by first | exact .inl rfl | exact .inr rfl) : WSs (Cb P w K mg base N qual sc f cdv A0 outer s0 H0 E0) (.Assign [.Name n px] e pos :: rest) D σ H :=
  ws_setW (X := (Cb P w K mg base N qual sc f cdv A0 outer s0 H0 E0)) h (of_decide_eq_true nd) k hi hx hs hf
theorem cb_while {c : Expr} (W : Nat → L2.St → Hp → Prop) (m0 : Nat) (h0 : W m0 σ H)
    (hs : ∀ m σ' H', W m σ' H' → WT (Cb P w K mg base N qual sc f cdv A0 outer s0 H0 E0) c σ' H' fun b H1 => if b = true then WSs (Cb P w K mg base N qual sc f cdv A0 outer s0 H0 E0) body { D with nx := fun σ2 H2 => ∃ m', m' < m ∧ W m' σ2 H2, ct := fun σ2 H2 => ∃ m', m' < m ∧ W m' σ2 H2, bk := WSs (Cb P w K mg base N qual sc f cdv A0 outer s0 H0 E0) rest D } σ' H1 else WSs (Cb P w K mg base N qual sc f cdv A0 outer s0 H0 E0) rest D σ' H1) : WSs (Cb P w K mg base N qual sc f cdv A0 outer s0 H0 E0) (.While c body [] pos :: rest) D σ H :=
  ws_while PassesOwn.never W m0 h0 hs
/-- for x in list; σ changes at j alone -/
theorem cb_forL (j : Nat) {as : List PyData} (h : EvD (Cb P w K mg base N qual sc f cdv A0 outer s0 H0 E0) iter σ B (.list as)) (l : Le B H) (Pv : Hp → Nat → L2.St → Hp → Prop)
    (h0 : ∀ B' H', Stp B H B' H' → Pv B' 0 σ H') (hl : ∀ B' i σ' H', Pv B' i σ' H' → Le B' H')
    (hs : ∀ B' i d v σ' H', Le B B' → as[i]? = some d → Dp K B' v d → Pv B' i σ' H' → WSs (Cb P w K mg base N qual sc f cdv A0 outer s0 H0 E0) body { D with nx := Pv B' (i + 1), ct := Pv B' (i + 1), bk := WSs (Cb P w K mg base N qual sc f cdv A0 outer s0 H0 E0) rest D } (σ'.set j (some v)) H')
    (hd : ∀ B' σ' H', Le B B' → Pv B' as.length σ' H' → WSs (Cb P w K mg base N qual sc f cdv A0 outer s0 H0 E0) rest D σ' H') (hf : ∀ x, foldedSetIterable iter (Cb P w K mg base N qual sc f cdv A0 outer s0 H0 E0).env x = pure x := by intro _; rfl) (nd : decide N.Nodup = true := by rfl) (hi : N[j]? = some n := by rfl) (hx : Loc sc n := by first | exact Or.inl rfl | exact Or.inr rfl)
    (hfn : (Cb P w K mg base N qual sc f cdv A0 outer s0 H0 E0).fn n = true ∨ sc.names.lookup n = some .local := by first | exact .inl rfl | exact .inr rfl) : WSs (Cb P w K mg base N qual sc f cdv A0 outer s0 H0 E0) (.For (.Name n px) iter body [] pos :: rest) D σ H :=
  ws_forL (X := (Cb P w K mg base N qual sc f cdv A0 outer s0 H0 E0)) PassesOwn.never rfl (pg_name (of_decide_eq_true nd) hi hx hfn) h l Pv h0 hl (fun B' i d v σ' H' a b c d => hs B' i _ v σ' H' a b c d) hd hf
end
theorem StpX.after {S : List Addr} {B H B1 H1 : Hp} {p : Addr} {o : HO} (t : StpX S B H B1 H1) (hp : p ∈ S) (hB : B p = none) (hH : H p ≠ none) : StpX S B H B1 (upd H1 p o) :=
  ⟨fun a u n h => by
    have na : a ≠ p := fun q => n (by rw [q]; exact hp)
    rw [upd_ne na]
    exact t.same a u n h, t.up, t.lo.mut (t.non p hB hH), t.non⟩
section
variable {X : Cx} {e : Expr} {σ : L2.St} {H : Hp} {ds : List PyData} {pos : Pos}
theorem ed_tupT {p : Pos} (hm : X.mg "tuple" = none) (hv : bootBuiltins "tuple" = some (.type "tuple")) (h : EvD X e σ H (.tuple ds)) (hg : Gl X "tuple" := by rfl) (he : starEach [e] X.env = (false, eval e X.env) :: starEach [] X.env := by rfl) :
    EvD X (.Call (.Name "tuple" p) [e] [] pos) σ H (.tuple ds) :=
  ev_ct call_tuple_of hm hv (ea_1 h he) (fun vs B H' _ l hs Q q => by
    obtain ⟨v, rfl, p1⟩ := holds1 hs
    obtain ⟨a, xs, rfl, h1, h2⟩ := dp_tuple p1
    exact ⟨a, xs, rfl, .inr ⟨l.sqT h1, q _ _ _ (.refl l) p1⟩⟩) hg (by decide) (by decide) he rfl
theorem el_ofL {p : Pos} (hm : X.mg "list" = none) (hv : bootBuiltins "list" = some (.type "list")) (h : EvD X e σ H (.list ds)) (hg : Gl X "list" := by rfl) (he : starEach [e] X.env = (false, eval e X.env) :: starEach [] X.env := by rfl) :
    EvL X (.Call (.Name "list" p) [e] [] pos) σ H ds :=
  ev_ct call_list_of hm hv (ea_1 h he) (fun vs B H' _ l hs Q q => by
    obtain ⟨v, rfl, p1⟩ := holds1 hs
    obtain ⟨a, xs, rfl, h1, h2⟩ := dp_list p1
    exact ⟨a, xs, rfl, .inl (l.sqL h1), fun p hp => q _ _ _ (.new l hp) ⟨p, xs, rfl, upd_same, (Le.new (le_none l hp)).dpAll h2⟩⟩) hg (by decide) (by decide) he rfl
end
section
variable {P : Program} {w : World} {K : PySem.W.Frag} {mg : Str → Option Value} {base : Heap} {N : List Str} {qual : Str} {sc scope : Scope} {f : Addr} {cdv : Value} {A0 : Around} {outer : List Env} {s0 : Shared} {H0 : Hp} {E0 : XK} {e o c : Expr} {σ : L2.St} {B H : Hp} {P1 : Pd} {pos p2 px apos cp : Pos} {D : Ends} {rest body : List Stmt} {n : Str}
theorem cb_app {q : Addr} {xs : List V} (h : EvP (Cb P w K mg base N qual sc f cdv A0 outer s0 H0 E0) e σ B P1) (l : Le B H) (ho : Ev (Cb P w K mg base N qual sc f cdv A0 outer s0 H0 E0) o σ B (.ref q)) (hq : H q = some (.lst xs)) (hz : xs.length < 100000) (k : ∀ v B' H', Stp B H B' H' → P1.p v B' → H' q = some (.lst xs) → WSs (Cb P w K mg base N qual sc f cdv A0 outer s0 H0 E0) rest D σ (upd H' q (.lst (xs ++ [v]))))
    (hpe : PE (Cb P w K mg base N qual sc f cdv A0 outer s0 H0 E0) (.Call (.Attribute o "append" apos) [e] [] cp) (tBM K "list" rAppend (WE (Cb P w K mg base N qual sc f cdv A0 outer s0 H0 E0) o) (tCons (WE (Cb P w K mg base N qual sc f cdv A0 outer s0 H0 E0) e) tNil)) := by exact pe_bm PySem.F.plainAttrs_list PySem.F.slot_list_append PySem.F.type_list_append mt_append pe_w (pa_cons pe_w pa_nil))
    (hs : swapsWith (.Call (.Attribute o "append" apos) [e] [] cp) none pos.line (Cb P w K mg base N qual sc f cdv A0 outer s0 H0 E0).env = pure false := by rfl) :
    WSs (Cb P w K mg base N qual sc f cdv A0 outer s0 H0 E0) (.Expr (.Call (.Attribute o "append" apos) [e] [] cp) pos :: rest) D σ H :=
  ws_app h l ho hq hz k hpe hs
/-- name = [], the list told by its place -/
theorem cb_nil (i : Nat) (k : ∀ a, H a = none → WSs (Cb P w K mg base N qual sc f cdv A0 outer s0 H0 E0) rest D (σ.set i (some (.ref a))) (upd H a (.lst []))) (nd : decide N.Nodup = true := by rfl) (hi : N[i]? = some n := by rfl) (hx : Loc sc n := by first | exact Or.inl rfl | exact Or.inr rfl)
    (hs : swapsWith (.List [] p2) (some (.Name n px)) pos.line (Cb P w K mg base N qual sc f cdv A0 outer s0 H0 E0).env = pure false := by rfl) (hf : (Cb P w K mg base N qual sc f cdv A0 outer s0 H0 E0).fn n = true ∨ sc.names.lookup n = some .local := by first | exact .inl rfl | exact .inr rfl) : WSs (Cb P w K mg base N qual sc f cdv A0 outer s0 H0 E0) (.Assign [.Name n px] (.List [] p2) pos :: rest) D σ H :=
  cb_setW (Q' := fun v H' => ∃ a, v = .ref a ∧ H a = none ∧ H' = upd H a (.lst [])) i (.of (pe_lst pa_nil) ⟨by decide, fun p hp => ⟨p, rfl, hp, rfl⟩⟩) (fun v H' ⟨a, e1, e2, e3⟩ => by
    subst e1 e3
    exact k a e2) nd hi hx hs hf
end
/-! ### name = [.. for ..] on one line -/
section
variable {P : Program} {w : World} {K : PySem.W.Frag} {mg : Str → Option Value} {base : Heap} {N : List Str} {qual : Str} {sc scope : Scope} {f : Addr} {cdv : Value} {A0 : Around} {outer : List Env} {s0 : Shared} {H0 : Hp} {E0 : XK} {elt iter : Expr} {ifs : List Expr} {σ : L2.St} {B H : Hp} {pos px py spos : Pos} {α : Type} {as : List α} {φ : α → PyData} {F : α → Bool} {G : α → PyData} {x y : Str} {D : Ends} {rest : List Stmt}
theorem cb_setLcL (i j : Nat) (l : Le B H) (hi : EvD (Cb P w K mg base N qual sc f cdv A0 outer s0 H0 E0) iter σ B (.list (as.map φ))) (ht : HT' (Cb P w K mg base N qual sc f cdv A0 outer s0 H0 E0) scope ifs σ [j] j B as φ F) (he : HE' (Cb P w K mg base N qual sc f cdv A0 outer s0 H0 E0) scope elt σ [j] j B as φ F G) (hl : as.length ≤ 100000)
    (k : ∀ v B' H', Stp B H B' H' → (Pd.dl K ((as.filter F).map G)).p v B' → WSs (Cb P w K mg base N qual sc f cdv A0 outer s0 H0 E0) rest D (σ.set i (some v)) H') (hb : blkB N sc scope x j = true := by rfl) (hk : sc.kind = .function := by rfl) (hy : N[i]? = some y := by rfl) (hyl : sc.names.lookup y = some .local := by rfl)
    (hln : (py.line == pos.line) = true := by rfl) (ha : (scope.names.any fun (n, k) => n == y && (k == .local || k == .cell)) = false := by rfl) (hs : ∀ x, foldedSetIterable iter (Cb P w K mg base N qual sc f cdv A0 outer s0 H0 E0).env x = pure x := by intro _; rfl) :
    WSs (Cb P w K mg base N qual sc f cdv A0 outer s0 H0 E0) (.Assign [.Name y py] (.ListComp elt [⟨.Name x px, iter, ifs, 0⟩] scope pos) spos :: rest) D σ H := by
  obtain ⟨h1, h2, h3, h4⟩ := blk_of hb
  refine ws_cons (ps_setLc (X := (Cb P w K mg base N qual sc f cdv A0 outer s0 H0 E0)) (own := [(x, j)]) rfl h1 hy hyl (sw_true hk hyl hln ha) (pi_list pe_w) h2 (pgB (X := (Cb P w K mg base N qual sc f cdv A0 outer s0 H0 E0)) rfl hb) pts_tI pe_tX hs) ?_
  exact lc_read_list (X := (Cb P w K mg base N qual sc f cdv A0 outer s0 H0 E0)) (vs := [j]) hi (List.mem_singleton.mpr rfl) hl ht he H l _ fun v B' H' s p => k v B' H' s p
theorem cb_setLcK {d : Addr} {kvs : List (Key × V)} {ss : List Str} {F : Str → Bool} {G : Str → PyData} (i j : Nat) (l : Le B H) (hi : Ev (Cb P w K mg base N qual sc f cdv A0 outer s0 H0 E0) iter σ B (.ref d)) (hd : Rd B d (.dK kvs)) (hkk : kvs.map (·.1) = ss.map Sum.inr) (ht : HT' (Cb P w K mg base N qual sc f cdv A0 outer s0 H0 E0) scope ifs σ [j] j B ss PyData.str F) (he : HE' (Cb P w K mg base N qual sc f cdv A0 outer s0 H0 E0) scope elt σ [j] j B ss PyData.str F G) (hl : ss.length ≤ 100000)
    (k : ∀ v B' H', Stp B H B' H' → (Pd.dl K ((ss.filter F).map G)).p v B' → WSs (Cb P w K mg base N qual sc f cdv A0 outer s0 H0 E0) rest D (σ.set i (some v)) H') (hb : blkB N sc scope x j = true := by rfl) (hk : sc.kind = .function := by rfl) (hy : N[i]? = some y := by rfl) (hyl : sc.names.lookup y = some .local := by rfl)
    (hln : (py.line == pos.line) = true := by rfl) (ha : (scope.names.any fun (n, k) => n == y && (k == .local || k == .cell)) = false := by rfl) (hs : ∀ x, foldedSetIterable iter (Cb P w K mg base N qual sc f cdv A0 outer s0 H0 E0).env x = pure x := by intro _; rfl) :
    WSs (Cb P w K mg base N qual sc f cdv A0 outer s0 H0 E0) (.Assign [.Name y py] (.ListComp elt [⟨.Name x px, iter, ifs, 0⟩] scope pos) spos :: rest) D σ H := by
  obtain ⟨h1, h2, h3, h4⟩ := blk_of hb
  have bs0 := ps_setLc (X := (Cb P w K mg base N qual sc f cdv A0 outer s0 H0 E0)) (own := [(x, j)]) (spos := spos) rfl h1 hy hyl (sw_true hk hyl hln ha) (pi_keys pe_w) h2 (pgB (X := (Cb P w K mg base N qual sc f cdv A0 outer s0 H0 E0)) (px := px) rfl hb) (pts_tI (ifs := ifs)) (pe_tX (elt := elt)) hs
  rcases l.dk hd with q | ⟨od, q⟩
  · refine ws_cons (ps_lock bs0) ⟨d, _, q, True.intro, fun od => ?_⟩
    refine lc_read_keys (X := (Cb P w K mg base N qual sc f cdv A0 outer s0 H0 E0)) (vs := [j]) hi hkk (List.mem_singleton.mpr rfl) hl ht he _ (l.trans (Le.lock (.inl q))) upd_same _ fun v B' H' s p => ?_
    obtain ⟨e, s2⟩ := stp_unlock q s
    exact ⟨e, k v B' _ s2 p⟩
  · exact ws_cons bs0 (lc_read_keys (X := (Cb P w K mg base N qual sc f cdv A0 outer s0 H0 E0)) (vs := [j]) hi hkk (List.mem_singleton.mpr rfl) hl ht he H l q _ fun v B' H' s p => k v B' H' s p)
end
theorem ru1 {k : Nat} {A : Around} (h : Room k A) : A.units + 1 < cLine := by have := h.un; omega
theorem ru64 {k : Nat} {A : Around} (h : Room k A) : A.units + 64 < cLine := by have := h.un; omega
/-! ### data that may be compared -/
theorem layS {l : List Str} (h : ∀ z ∈ l, okName z = true) : PyData.canLayAll0 (l.map .str) = true ∧ PyData.depthAll (l.map .str) = 0 := by
  induction l with
  | nil => exact ⟨rfl, rfl⟩
  | cons z r ih =>
    obtain ⟨i1, i2⟩ := ih fun y hy => h y (List.mem_cons_of_mem _ hy)
    have hz := h z (List.mem_cons_self ..)
    unfold okName at hz
    simp only [Bool.and_eq_true] at hz
    refine ⟨?_, ?_⟩
    · rw [List.map_cons]
      show (PyData.canLay0 (.str z) && _) = true
      rw [i1, Bool.and_true]
      exact hz.2
    · rw [List.map_cons]
      show max 0 _ = 0
      rw [i2]
      rfl
theorem shapedL {l : List Str} (h : ∀ z ∈ l, okName z = true) : SeqAt.shaped (.list (l.map .str)) = true := by
  obtain ⟨h1, h2⟩ := layS h
  unfold SeqAt.shaped
  rw [Bool.and_eq_true]
  refine ⟨h1, decide_eq_true ?_⟩
  show PyData.depthAll _ + 1 ≤ 64
  omega
theorem eqv_nil (l : List PyData) : PyData.eqv (.list l) (.list []) = l.isEmpty := by
  cases l <;> rfl
theorem eqv_nilT (l : List PyData) : PyData.eqv (.tuple l) (.tuple []) = l.isEmpty := by
  cases l <;> rfl
end K57

set_option Elab.async false
set_option linter.all false
set_option maxRecDepth 100000
set_option maxHeartbeats 4000000
/-! YZ: sum(lists, []). -/
namespace K57
open PySem PySem.Spec PyProof.Rows L2
def catF (its : Nat → List Value) : Nat → List Value
  | 0 => []
  | i + 1 => catF its i ++ its i
theorem catF_le (its : Nat → List Value) : ∀ {i n : Nat}, i ≤ n → (catF its i).length ≤ (catF its n).length := fun {i n} h => by
  induction n with
  | zero => rw [Nat.le_zero.mp h]; exact Nat.le_refl _
  | succ n ih =>
    rcases Nat.lt_or_ge n i with q | q
    · rw [show i = n + 1 by omega]; exact Nat.le_refl _
    · show _ ≤ (catF its n ++ its n).length
      rw [List.length_append]
      exact Nat.le_trans (ih q) (Nat.le_add_right _ _)
section
variable {prog : Program} {w : World} {A : Around} {E : Value → Shared → Prop} {s : Shared}
theorem add_listW {l b : Addr} {vs ws : List Value} {Q : Value → Shared → Prop} (hl : s.heap.IsList l vs.toArray) (hb : s.heap.IsList b ws.toArray)
    (h : Q (.ref s.heap.objs.size) { s with heap := s.heap.push { cls := .type "list", data := .seq (vs ++ ws).toArray } }) (hsz : vs.length + ws.length ≤ sizeLine) :
    wpAny (model prog w) A (binaryOp .Add (.ref l) (.ref b)) Q E s := by
  obtain ⟨⟨cls, dd, data, sl⟩, ho, hc, n, hd⟩ := id hl
  obtain ⟨⟨cls2, dd2, data2, sl2⟩, ho2, hc2, n2, hd2⟩ := id hb
  simp only at hc hd hc2 hd2
  subst hc hd hc2 hd2
  have e : vs.toArray ++ ws.toArray = (vs ++ ws).toArray := by simp
  refine concat_meets ⟨_, ho, rfl⟩ ⟨_, ho2, rfl⟩ noFill_list_add seq_list_add PySem.F.slot_list_add PySem.F.entry_list_add (PySem.F.args_list_add_2 _ _) (list_addW l b vs.toArray ws.toArray n n2 dd dd2 sl sl2 (by simpa using hsz)) ⟨ho, ho2, ?_⟩
  rw [e]
  exact h
end
section
variable {prog : Program} {w : World} {A : Around} {R : Result → Shared → Prop} {I : Addr} {fp wr : List Addr} {n : Nat} {P : Nat → Value → Prop} {St : Nat → Heap → Prop}
theorem codeAny_sum_loopL (W : Walks prog w A.in1 I fp wr n P St) (ad : Nat → Addr) (its : Nat → List Value) (h0 : Heap) (hval : ∀ i v, P i v → v = .ref (ad i)) (S : Addr) (hSf : ∀ b ∈ fp, b < S) (hwr : ∀ b ∈ wr, h0.objs.size ≤ b) (hS0 : h0.objs.size ≤ S)
    (hit : ∀ i, i < n → h0.IsList (ad i) (its i).toArray) (hz : (catF its n).length ≤ sizeLine) (hn : 0 < n) (s0 : Shared)
    (hR : ∀ (s : Shared) t m, (∃ hp tk, s = { s0 with heap := hp, toks := tk }) → (∀ b o, h0.get? b = some o → s.heap.get? b = some o) → s.heap.get? t = some { cls := .type "list", dict := none, data := .seq (catF its n).toArray m, slots := #[] } → h0.objs.size ≤ t → R (.ok (.ret (.ref t))) s) :
    ∀ (k i : Nat) (s : Shared) (t : Addr) (m c : Nat), (∃ hp tk, s = { s0 with heap := hp, toks := tk }) → n - i = k → i ≤ n → St i s.heap → (∀ b o, h0.get? b = some o → s.heap.get? b = some o) → s.heap.get? S = some { cls := .type "list", dict := none, data := .seq #[.ref t] c, slots := #[] } →
      s.heap.get? t = some { cls := .type "list", dict := none, data := .seq (catF its i).toArray m, slots := #[] } → t ∉ wr → t ≠ S → (0 < i → h0.objs.size ≤ t) →
      codeAny (model prog w) A (.builtin "sum.loop" ⟨[.ref I, .ref S, rawInt 2, rawInt 0], []⟩) R s := by
  have hSn : S ∉ fp := fun h => Nat.lt_irrefl _ (hSf S h)
  have hSw : S ∉ wr := fun h => hSn (W.sub _ h)
  intro k
  induction k with
  | zero =>
    intro i s t m c hs hk hi hst hh hS ht htw htS h0t
    have hin : i = n := by omega
    subst hin
    refine codeAny_builtin PySem.F.entry_sum_loop ?_
    rw [Around.under_plainId PySem.F.plain_sum_loop _]
    show wpAny _ A.in1 (seqItems? (.ref S) >>= _) _ _ s
    refine wpAny_bind (wpAny_seqItems hS rfl ?_)
    show wpAny _ A.in1 (tryCatch (pyNext (.ref I)) _ >>= _) _ _ s
    refine wpAny_bind (wpAny_tryCatch (W.done s _ _ hst fun h' tk hk' => ?_))
    exact wpAny_pure (hR _ t m (by obtain ⟨a1, a2, rfl⟩ := hs; exact ⟨_, _, rfl⟩) (fun b o e => hk' b o (fun h => Nat.lt_irrefl _ (Nat.lt_of_lt_of_le (Heap.lt_size e) (hwr b h))) (hh b o e)) (hk' _ _ htw ht) (h0t hn))
  | succ k ih =>
    intro i s t m c hs hk hi hst hh hS ht htw htS h0t
    have hlt : i < n := by omega
    refine codeAny_builtin PySem.F.entry_sum_loop ?_
    rw [Around.under_plainId PySem.F.plain_sum_loop _]
    show wpAny _ A.in1 (seqItems? (.ref S) >>= _) _ _ s
    refine wpAny_bind (wpAny_seqItems hS rfl ?_)
    show wpAny _ A.in1 (tryCatch (pyNext (.ref I)) _ >>= _) _ _ s
    refine wpAny_bind (wpAny_tryCatch (W.item i s _ _ hlt hst fun v h' tk hP hst' hk' => ?_))
    have ev := hval i v hP
    subst ev
    have hS' := hk' S _ hSw hS
    have ht' := hk' t _ htw ht
    have hh' : ∀ b o, h0.get? b = some o → h'.get? b = some o := fun b o e => hk' b o (fun h => Nat.lt_irrefl _ (Nat.lt_of_lt_of_le (Heap.lt_size e) (hwr b h))) (hh b o e)
    have hl : h'.IsList (ad i) (its i).toArray := by
      obtain ⟨o, e1, e2⟩ := hit i hlt
      exact ⟨o, hh' _ _ e1, e2⟩
    have hsz : (catF its i).length + (its i).length ≤ sizeLine := by
      have := catF_le its (i := i + 1) (n := n) hlt
      have e : (catF its (i + 1)).length = (catF its i).length + (its i).length := List.length_append
      omega
    have hSlt : S < h'.objs.size := Heap.lt_size hS'
    show wpAny _ A.in1 ((holding [Value.ref (ad i)] (binaryOp .Add (.ref t) (.ref (ad i)))).attempt >>= _) _ _ _
    refine wpAny_bind (wpAny_attempt (wpAny_holding (add_listW (s := { s with heap := h', toks := tk }) ⟨_, ht', rfl, m, rfl⟩ hl ?_ hsz)))
    have hSp := Heap.get?_push_of_some { cls := .type "list", data := .seq (catF its i ++ its i).toArray } hS'
    show wpAny _ A.in1 (updateSeq S (fun _ => #[.ref h'.objs.size]) >>= _) _ _ _
    refine wpAny_bind ?_
    refine wpAny_updateSeq hSp rfl ?_
    have hS2 := Heap.get?_update_self (Obj.mapSeq fun _ => #[Value.ref h'.objs.size]) hSp rfl
    refine wpAny_bind (wpAny_letGo ?_)
    refine wpAny_bind ?_
    have hne : S ≠ h'.objs.size := Nat.ne_of_lt hSlt
    refine wpAny_updateSeq hS2 rfl (wpAny_pure ⟨plainId_quiet PySem.F.plain_sum_loop _, ih (i + 1) _ h'.objs.size 0 _ (by obtain ⟨a1, a2, rfl⟩ := hs; exact ⟨_, _, rfl⟩) (by omega) hlt (W.frame _ _ _ hst' fun b hb o e => ?_) (fun b o e => ?_) (Heap.get?_update_self _ hS2 rfl) ?_ (fun h => ?_) hne.symm (fun _ => Nat.le_trans hS0 (Nat.le_of_lt hSlt))⟩)
    · exact (Heap.get?_update_other _ _ (fun h : S = b => hSn (by rw [h]; exact hb))).trans ((Heap.get?_update_other _ _ (fun h : S = b => hSn (by rw [h]; exact hb))).trans (Heap.get?_push_of_some _ e))
    · have hb : S ≠ b := fun h => Nat.lt_irrefl _ (Nat.lt_of_lt_of_le (Heap.lt_size (h ▸ e)) hS0)
      exact (Heap.get?_update_other _ _ hb).trans ((Heap.get?_update_other _ _ hb).trans (Heap.get?_push_of_some _ (hh' b o e)))
    · exact (Heap.get?_update_other _ _ hne).trans ((Heap.get?_update_other _ _ hne).trans (Heap.get?_push_size _ rfl))
    · exact Nat.lt_irrefl _ (Nat.lt_trans hSlt (hSf _ (W.sub _ h)))
end
theorem listNotBytes : isSubtype (.type "list") (.type "bytes") = pure false := by
  rw [isSubtype_type]
  kernel_rfl
theorem listNotBytearray : isSubtype (.type "list") (.type "bytearray") = pure false := by
  rw [isSubtype_type]
  kernel_rfl
theorem args_sum2 (a b : Value) : argsOk "sum" ⟨[a, b], []⟩ := by unfold argsOk; kernel_rfl
section
variable {prog : Program} {w : World} {A : Around} {E : Value → Shared → Prop} {s : Shared}
theorem call_sum_lists {l t : Addr} {m0 : Nat} {Q : Value → Shared → Prop} (hh : A.handled = none) {as : List Addr} {itss : List (List Value)} (hl : s.heap.IsList l (as.map Value.ref).toArray) (ht : s.heap.get? t = some { cls := .type "list", dict := none, data := .seq #[] m0, slots := #[] })
    (hit : ∀ (i : Nat) (p : Addr) (x : List Value), as[i]? = some p → itss[i]? = some x → s.heap.IsList p x.toArray) (hlen : as.length = itss.length) (hn : 0 < as.length) (hz : itss.flatten.length ≤ sizeLine)
    (hQ : ∀ (hp : Heap) (tk : Nat) u m, (∀ b o, s.heap.get? b = some o → hp.get? b = some o) → hp.get? u = some { cls := .type "list", dict := none, data := .seq itss.flatten.toArray m, slots := #[] } → s.heap.objs.size ≤ u → Q (.ref u) { s with heap := hp, toks := tk }) :
    wpAny (model prog w) A (call (.builtin "sum") [.ref l, .ref t]) Q E s := by
  have hcat : ∀ k, catF (fun i => itss.getD i []) k = (itss.take k).flatten := fun k => by
    induction k with
    | zero => rfl
    | succ k ih =>
      show catF _ k ++ itss.getD k [] = _
      rw [ih, List.take_succ, List.flatten_append]
      cases e : itss[k]? with
      | none => simp [List.getD_eq_getElem?_getD, e]
      | some x => simp [List.getD_eq_getElem?_getD, e]
  have hcatn : catF (fun i => itss.getD i []) as.length = itss.flatten := by rw [hcat, hlen, List.take_length]
  refine call_function_tree PySem.F.kind_sum PySem.F.plain_sum PySem.F.entry_sum (args_sum2 _ _) ?_
  unfold Builtin.«sum»
  simp only [List.length_cons, List.length_nil]
  rw [if_neg (by decide)]
  refine wpAny_bind (wpAny_of_eq (show Builtin.Builtins.bindParams "sum" ["start"] 0 ⟨[.ref t], []⟩ = pure [some (.ref t)] from rfl) ?_)
  have hlt : l < s.heap.objs.size := by obtain ⟨_, e, _⟩ := hl; exact Heap.lt_size e
  have htt : t < s.heap.objs.size := Heap.lt_size ht
  refine wpAny_bind (wpAny_pyIter_list hl ?_)
  have T : ∀ s2 : Shared, s2.heap.get? t = some { cls := .type "list", dict := none, data := .seq #[] m0, slots := #[] } → s2.TypeIs (.ref t) "list" := fun s2 e => ⟨_, e, rfl⟩
  have hp1 := Heap.get?_push_of_some { cls := .type "list_iterator", data := .fields #[.ref l, .int 0 0] } ht
  refine wpAny_bind (wpAny_pure ?_)
  simp only [List.forIn_cons, List.forIn_nil]
  refine wpAny_bind (wpAny_bind (wpAny_bind (wpAny_isInstance (T := "list") (b := false) (T _ hp1) sub_list_str ?_)))
  simp only [Bool.false_eq_true, if_false]
  refine wpAny_pure (wpAny_bind (wpAny_bind (wpAny_isInstance (T := "list") (b := false) (T _ hp1) listNotBytes ?_)))
  simp only [Bool.false_eq_true, if_false]
  refine wpAny_pure (wpAny_bind (wpAny_bind (wpAny_isInstance (T := "list") (b := false) (T _ hp1) listNotBytearray ?_)))
  simp only [Bool.false_eq_true, if_false]
  refine wpAny_pure (wpAny_pure ?_)
  refine wpAny_bind (wpAny_newObj_type ?_)
  refine wpAny_pure ⟨plainId_quiet PySem.F.plain_sum_loop _, ?_⟩
  have W := Walks.list (prog := prog) (w := w) (A := A.in1) hh s.heap.objs.size l (Nat.ne_of_lt hlt) (as.map Value.ref).toArray
  have hsz : (as.map Value.ref).toArray.size = as.length := by simp
  have e1 : (s.heap.push { cls := .type "list_iterator", data := .fields #[.ref l, .int 0 0] }).objs.size = s.heap.objs.size + 1 := Heap.size_push ..
  refine codeAny_sum_loopL W (fun i => as.getD i 0) (fun i => itss.getD i []) s.heap (fun i v h => ?_) (s.heap.push { cls := .type "list_iterator", data := .fields #[.ref l, .int 0 0] }).objs.size (fun b hb => ?_) (fun b hb => ?_) (by rw [e1]; exact Nat.le_succ _) (fun i hi => ?_) ?_ ?_ s (fun s' u m hx h1 h2 h3 => ?_) as.length 0 _ t m0 0 ⟨_, _, rfl⟩ (by rw [hsz]; rfl) (Nat.zero_le _) ?_ (fun b o e => ?_) ?_ ?_ ?_ ?_ (fun h => absurd h (Nat.lt_irrefl _))
  · rw [List.getElem?_toArray, List.getElem?_map] at h
    obtain ⟨p, h1, h2⟩ := Option.map_eq_some_iff.mp h
    rw [List.getD_eq_getElem?_getD, h1]
    exact h2.symm
  · rw [e1]
    rcases List.mem_cons.mp hb with e | e
    · rw [e]; exact Nat.lt_succ_self _
    · rw [List.mem_singleton.mp e]; exact Nat.lt_succ_of_lt hlt
  · rw [List.mem_singleton.mp hb]
    exact Nat.le_refl _
  · rw [hsz] at hi
    have hi2 : i < itss.length := by omega
    rw [List.getD_eq_getElem?_getD, List.getD_eq_getElem?_getD, List.getElem?_eq_getElem hi, List.getElem?_eq_getElem hi2]
    exact hit i _ _ (List.getElem?_eq_getElem hi) (List.getElem?_eq_getElem hi2)
  · rw [hsz, hcatn]; exact hz
  · rw [hsz]; exact hn
  · obtain ⟨hp, tk, rfl⟩ := hx
    rw [hsz, hcatn] at h2
    exact hQ hp tk u m h1 h2 h3
  · exact W.frame _ _ _ ⟨⟨_, Heap.get?_push_size _ rfl, rfl, rfl⟩, hl.push _⟩ fun b _ o e => Heap.get?_push_of_some _ e
  · exact Heap.get?_push_of_some _ (Heap.get?_push_of_some _ e)
  · exact Heap.get?_push_size _ rfl
  · exact Heap.get?_push_of_some _ (Heap.get?_push_of_some _ ht)
  · intro h
    rw [List.mem_singleton.mp h] at htt
    exact Nat.lt_irrefl _ htt
  · rw [e1]
    exact Nat.ne_of_lt (Nat.lt_succ_of_lt htt)
theorem call_sumL {X : Cx} (hc : X.calm = true) : CallR X (.builtin "sum") (fun xs H Q => ∃ (a b : Addr) (as : List Addr) (Ls : List (List V)), xs = [.ref a, .ref b] ∧ SqL X.K H a (as.map V.ref) ∧ H b = some (.lst []) ∧ as.length = Ls.length ∧ (∀ (i : Nat) (p : Addr) (L : List V), as[i]? = some p → Ls[i]? = some L → SqL X.K H p L) ∧ 0 < as.length ∧ Ls.flatten.length ≤ sizeLine ∧
    ∀ p, H p = none → Q (.ref p) (upd H p (.lst Ls.flatten))) := by
  intro pins s σ H vs us Q I r h
  obtain ⟨a, b, as, Ls, rfl, hs, hb, hlen, hit, hn, hz, q⟩ := h
  cases r with
  | cons r1 r2 =>
    cases r2 with
    | cons r3 r4 =>
      cases r4
      cases r1
      cases r3
      obtain ⟨its, rv, hl, _⟩ := I.list hs
      have ei := refs_at rv
      subst ei
      obtain ⟨_, itb, nb, rb, lb, eb⟩ := I.lstM hb
      have eb' : itb = [] := by cases itb with
        | nil => rfl
        | cons x t => cases lb
      subst eb'
      have hx : ∀ (as : List Addr) (Ls : List (List V)), as.length = Ls.length → (∀ (i : Nat) (p : Addr) (L : List V), as[i]? = some p → Ls[i]? = some L → SqL X.K H p L) → ∃ itss : List (List Value), as.length = itss.length ∧ Vals Ls.flatten itss.flatten ∧ ∀ (i : Nat) (p : Addr) (x : List Value), as[i]? = some p → itss[i]? = some x → s.heap.IsList p x.toArray := by
        intro as
        induction as with
        | nil =>
          intro Ls h1 h2
          cases Ls with
          | nil => exact ⟨[], rfl, .nil, fun i p x h => by cases h⟩
          | cons L t => cases h1
        | cons p t ih =>
          intro Ls h1 h2
          cases Ls with
          | nil => cases h1
          | cons L u =>
            obtain ⟨itss, g1, g2, g3⟩ := ih u (Nat.succ.inj h1) fun i p L e1 e2 => h2 (i + 1) p L e1 e2
            obtain ⟨x, rx, hlx, _⟩ := I.list (h2 0 p L rfl rfl)
            refine ⟨x :: itss, congrArg Nat.succ g1, rx.append g2, fun i p' x' e1 e2 => ?_⟩
            cases i with
            | zero => cases e1; cases e2; exact hlx.isList
            | succ i => exact g3 i p' x' e1 e2
      obtain ⟨itss, g1, g2, g3⟩ := hx as Ls hlen hit
      refine call_sum_lists (I.ok.hd hc) hl.isList eb g3 g1 hn (by rw [← g2.length]; exact hz) fun hp tk u m k1 k2 k3 => ?_
      exact ⟨.ref u, upd H u (.lst Ls.flatten), I.laid k1 k3 ⟨hz, itss.flatten, m, g2, k2⟩, rfl, q u (I.hok.fresh k3)⟩
end
end K57

set_option Elab.async false
set_option linter.all false
set_option maxRecDepth 100000
set_option maxHeartbeats 4000000
/-! ZN: nets.py. -/
namespace K57
open PySem PySem.Spec PyProof.Rows L2
/-- the rows of a net, as data -/
def rowsD (rows : List (Str × List Str)) : List (Str × PyData) := rows.map fun q => (q.1, .tuple (q.2.map .str))
abbrev keysN (rows : List (Str × List Str)) : List Str := rows.map (·.1)
def lookN (rows : List (Str × List Str)) (n : Str) : List Str := (rows.lookup n).getD []
theorem rowsD_keys (rows : List (Str × List Str)) : (rowsD rows).map (·.1) = rows.map (·.1) := by
  unfold rowsD
  rw [List.map_map]
  rfl
theorem rowsD_lookup {n : Str} : ∀ {rows : List (Str × List Str)}, n ∈ rows.map (·.1) → (rowsD rows).lookup n = some (.tuple ((lookN rows n).map .str))
  | [], h => by simp at h
  | (m, l) :: r, h => by
    unfold rowsD lookN
    rw [List.map_cons, List.lookup_cons, List.lookup_cons]
    by_cases e : n = m
    · subst e
      simp
    · rw [beq_eq_false_iff_ne.mpr e]
      exact rowsD_lookup (by simpa [e] using h)
/-- a net's needs as Net asks for them -/
structure OkNet (rows : List (Str × List Str)) : Prop where
  nd : (rows.map (·.1)).Nodup
  lo : 1 ≤ rows.length
  hi : rows.length ≤ 5
  nm : ∀ n ∈ rows.map (·.1), okName n = true
  need : ∀ n ∈ rows.map (·.1), (lookN rows n).Nodup ∧ ∀ m ∈ lookN rows n, m ∈ rows.map (·.1)
/-- the net at p -/
def NetAt (K : PySem.W.Frag) (H : Hp) (p : Addr) (rows : List (Str × List Str)) : Prop := ∃ dx r, H p = some (.ins (cNet K) dx [(("rows" : Str), V.ref r)]) ∧ KvAt K H r (rowsD rows)
theorem NetAt.le {K : PySem.W.Frag} {H H' : Hp} {p : Addr} {rows : List (Str × List Str)} (e : Le H H') (h : NetAt K H p rows) : NetAt K H' p rows := let ⟨dx, r, h1, h2⟩ := h; ⟨dx, r, e.ins h1, h2.le e⟩
def Pd.net (K : PySem.W.Frag) (rows : List (Str × List Str)) : Pd := ⟨fun x H => ∃ p, x = .ref p ∧ NetAt K H p rows, fun e ⟨p, h1, h2⟩ => ⟨p, h1, h2.le e⟩⟩
/-- the rows in the names' order -/
def sortN (rows : List (Str × List Str)) : List (Str × List Str) := (sortS (rows.map (·.1))).map fun n => (n, lookN rows n)
theorem sub_len {a b : List Str} (hn : a.Nodup) (hs : ∀ m ∈ a, m ∈ b) : a.length ≤ b.length := by
  induction a generalizing b with
  | nil => exact Nat.zero_le _
  | cons x r ih =>
    have h1 := List.nodup_cons.mp hn
    have hx := hs x (List.mem_cons_self ..)
    have := ih (b := b.erase x) h1.2 fun m hm => by
      have hne : m ≠ x := fun e => h1.1 (e ▸ hm)
      exact (List.mem_erase_of_ne hne).mpr (hs m (List.mem_cons_of_mem _ hm))
    rw [List.length_erase_of_mem hx] at this
    have := List.length_pos_of_mem hx
    rw [List.length_cons]
    omega
section
variable {P : Program} {w : World} {K : PySem.W.Frag} {mg : Str → Option Value} {base : Heap} (T : Tx P K mg)
include T
def A_is_needs (K : PySem.W.Frag) : List V → Hp → Pd → Prop := fun vs B R => ∃ (vn vm : V) (ns ms : List Str), vs = [vn, vm] ∧ Dp K B vn (.tuple (ns.map .str)) ∧ Dp K B vm (.list (ms.map .str)) ∧ ns.Nodup ∧ (∀ n ∈ ns, n ∈ ms) ∧ ns.length ≤ 50 ∧ R = Pd.v (.bl true)
theorem cal_is_needs : C8.Cal P w K mg base 1 "is_needs" (pureSp (A_is_needs K)) [] :=
  cal_pure T.d_is_needs T.g_is_needs ⟨rfl, rfl, rfl, by decide +kernel, rfl, by decide +kernel, by decide +kernel⟩ (fun _ _ _ _ _ _ us hl => match us, hl with | [_, _], _ => rfl) (N := ["needs", "names", "name"]) (ps := ["needs", "names"]) (fun vs B R ⟨_, _, _, _, e, _⟩ => by rw [e]; rfl)
    fun cdv A0 outer s H0 E vs B H R D hr l ⟨vn, vm, ns, ms, e, hn, hm, nd, sub, h50, eR⟩ q1 q2 => by
      subst e
      subst eR
      have hu : (Cb P w K mg base ["needs", "names", "name"] "is_needs" (defScope s_is_needs) (He.ga K "is_needs") cdv A0 outer s H0 E).A.units + 64 < cLine := by have := hr.un; omega
      refine ws_ifN (et_or2 (k := false) (j := false) ?_ fun _ => ?_) l fun H1 s1 => ?_
      · exact et_not (k := true) (et_v (ev_isiT (t := .type "tuple") (us := [.type "list", .type "tuple"]) (ws := [.ty "list", .ty "tuple"]) T.f_isinstance rfl (ev_d (ev_name (i := 0) rfl) hn) (ea_cons (ev_bltn rfl T.f_list rfl rfl) (ea_1 (ev_bltn rfl T.f_tuple rfl rfl))) (by decide) (.cons (.ty _) (.cons (.ty _) .nil)) rfl (fun v B _ h H' l => ty_dp (l.dp h))))
      · refine et_ned hu (d1 := .list []) (d2 := .list []) ?_ ed_nilL rfl rfl rfl
        refine ed_eq (EvL.toD (cb_lcT 2 (as := ns) (φ := .str) (F := fun _ => false) (G := .str) (ev_d (ev_name (i := 0) rfl) hn) (fun c hc v B1 lb hp s1 H1 C cl fp => ei_one ?_) (fun c hc hF v B1 lb hp s1 H1 C cl fp => absurd hF (by simp)) (by omega))) (by simp)
        exact et_not (k := true) (et_v (ev_isd (d := .str c) T.f_isinstance T.f_str (ev_d (ev_name (i := 2) rfl) hp)))
      refine ws_ret (P := Pd.v (.bl true)) ?_ (l.trans (le_of s1)) fun v B' H' st => q1 v B' H' ((Stp.keep l s1).trans st)
      refine ev_and (k := true) (j := true) ?_ fun _ => ?_
      · exact ev_eqs (ev_lenSetS rfl T.f_len T.f_set (ev_d (ev_name (i := 0) rfl) hn) nd (by omega)) (ev_lenT T.f_len (ev_d (ev_name (i := 0) rfl) hn)) rfl (by simp)
      · refine ev_eqd hu (d1 := .list []) (d2 := .list []) ?_ ed_nilL rfl rfl rfl
        refine ed_eq (EvL.toD (cb_lcT 2 (as := ns) (φ := .str) (F := fun c => !decide (c ∈ ms)) (G := .str) (ev_d (ev_name (i := 0) rfl) hn) (fun c hc v B1 lb hp s1 H1 C cl fp => ei_one ?_) (fun c hc hF v B1 lb hp s1 H1 C cl fp => ev_d (ev_name (i := 2) rfl) hp) (by omega))) ?_
        · rw [dp_str hp]
          exact et_ninL (ev_name (i := 2) rfl) (ev_d (ev_name (i := 1) rfl) (lb.dp hm)) rfl
        · rw [List.filter_eq_nil_iff.mpr fun c hc => by simp [sub c hc]]
          rfl

def A_Net (K : PySem.W.Frag) : List V → Hp → (List (Str × V) → Hp → Prop) → Prop := fun args B Fs => ∃ q nd, args = [.ref q] ∧ KvAt K B q (rowsD nd) ∧ OkNet nd ∧ Fs = fun fs B' => ∃ r : Addr, fs = [(("rows" : Str), V.ref r)] ∧ KvAt K B' r (rowsD (sortN nd))
theorem mak_Net : C8.Mak P w K mg base 2 "Net" (cNet K) (initSp (cNet K) (A_Net K)) [] :=
  mak_init T.d_Net_init T.k_Net T.g_Net ⟨rfl, rfl, rfl, by decide +kernel, rfl, by decide +kernel, by decide +kernel⟩ (fun _ _ _ _ _ _ us hl => match us, hl with | [_, _], _ => rfl) (N := ["self", "needs", "name", "names"]) (ps := ["self", "needs"]) (fun vs B R ⟨_, _, e, _⟩ => by rw [e]; rfl)
    fun cdv A0 outer s H0 E p dx args B H Fs D hr hp hBp l ⟨q, nd, e, hq, ok, eF⟩ k => by
      subst e
      subst eF
      have hu : (Cb P w K mg base ["self", "needs", "name", "names"] "Net.__init__" (defScope s_Net_init) (He.ma K (cNet K) "__init__") cdv A0 outer s H0 E).A.units + 64 < cLine := by have := hr.un; omega
      have hu1 : (Cb P w K mg base ["self", "needs", "name", "names"] "Net.__init__" (defScope s_Net_init) (He.ma K (cNet K) "__init__") cdv A0 outer s H0 E).A.units + 1 < cLine := by omega
      obtain ⟨t5, g5⟩ := T.i_MOST_VALUES
      have hk5 : (nd.map (·.1)).length = nd.length := List.length_map ..
      have lo := ok.lo
      have hi := ok.hi
      obtain ⟨kvs, hd, hkv⟩ := hq
      have hkk : kvs.map (·.1) = (nd.map (·.1)).map Sum.inr := by rw [hkv.keys, rowsD_keys]
      have hkl : kvs.length = nd.length := by rw [hkv.len]; unfold rowsD; rw [List.length_map]
      refine ws_ifN (et_or2 (k := false) (j := false) ?_ fun _ => ?_) l fun H1 s1 => ?_
      · exact et_not (k := true) (et_v (ev_ist (t := .type "dict") T.f_isinstance T.f_dict (ev_name (i := 1) rfl) (fun v B1 l1 (e : v = _) H' l2 => by rw [e]; exact ty_rd ((l1.trans l2).dk hd)) rfl))
      · exact et_not (k := true) (et_lele ev_int (ev_lenD T.f_len (ev_name (i := 1) rfl) hd) (ev_glob (v := .int 5) rfl g5 ⟨t5, rfl⟩) (by rw [hkl, decide_eq_true_eq]; omega))
      have l1 := l.trans (le_of s1)
      refine ws_ifN ?_ l1 fun H2 s2 => ?_
      · refine et_ned hu (d1 := .list []) (d2 := .list []) ?_ ed_nilL rfl rfl rfl
        refine ed_eq (EvL.toD (cb_lcK 2 (F := fun _ => false) (G := .str) (ev_name (i := 1) rfl) hd hkk (fun c hc v B1 lb hp s1 H1 C cl fp => ei_one ?_) (fun c hc hF v B1 lb hp s1 H1 C cl fp => absurd hF (by simp)) (by omega))) (by simp)
        exact et_not (k := true) (et_v (ev_call (cal_is_name T) hr (ea_1 (ev_name (i := 2) rfl)) fun vs B2 _ h => by
          obtain ⟨v, rfl, e⟩ := holds1 h
          exact ⟨c, by rw [show v = _ from e, dp_str hp], ok.nm c hc, rfl⟩))
      have l2 := l1.trans (le_of s2)
      refine cb_set 3 (P1 := Pd.dl K ((sortS (nd.map (·.1))).map .str)) ?_ l2 fun vn B3 H3 s3 hvn => ?_
      · refine el_sortedS T.f_sorted rfl (EvL.toD (ds := ((nd.map (·.1)).map PyData.str)) ?_) (by omega) (fun zs p h => sortS_eq p h)
        refine EvP.imp (cb_lcK 2 (F := fun _ => true) (G := .str) (ev_name (i := 1) rfl) hd hkk (fun c hc v B1 lb hp s1 H1 C cl fp => ei_nil) (fun c hc hF v B1 lb hp s1 H1 C cl fp => ?_) (by omega)) (fun v H' _ h => by
          rw [List.filter_eq_self.mpr (fun _ _ => rfl)] at h
          exact h)
        rw [dp_str hp]
        exact ev_d (ev_strS T.f_str rfl (ev_name (i := 2) rfl)) (.str c)
      have hvd : Dp K B3 vn (.list ((sortS (nd.map (·.1))).map .str)) := by
        obtain ⟨a, xs, e1, h1, h2⟩ := hvn
        rw [e1]
        exact .lst (.of h1) h2
      have hp3 := s3.same _ _ (s2 _ _ (s1 _ _ hp))
      have up3 : Le B B3 := s3.up
      have st3 : Stp B H B3 H3 := (Stp.keep l (s1.trans s2)).trans s3
      refine cb_forL 2 (ev_d (ev_name (i := 3) rfl) hvd) s3.lo (fun B' i σ' H' => (∃ o, σ' = [some (.ref p), some (.ref q), o, some vn]) ∧ Stp B H B' H') (fun B' H' s4 => ⟨⟨none, rfl⟩, st3.trans s4⟩) (fun B' i σ' H' h => h.2.lo) (fun B' i d v σ' H' lb hd2 hv hP => ?_) (fun B' σ' H' lb hP => ?_)
      · obtain ⟨⟨o, rfl⟩, st⟩ := hP
        obtain ⟨z, hz, rfl⟩ := List.mem_map.mp (List.mem_of_getElem? hd2)
        have hz2 : z ∈ nd.map (·.1) := mem_sortS.mp hz
        have hv' := dp_str hv
        subst hv'
        have hnz := ok.need z hz2
        refine ws_ifN ?_ st.lo fun H5 s5 => ws_nil ⟨⟨_, rfl⟩, st.trans (.keep st.lo s5)⟩
        refine et_not (k := true) (et_v (ev_call (cal_is_needs T) hr (ea_cons (ed_get (ev_name (i := 1) rfl) (KvAt.le st.up ⟨kvs, hd, hkv⟩) (ev_name (i := 2) rfl) (rowsD_lookup hz2) hu1) (ea_1 (ev_d (ev_name (i := 3) rfl) (lb.dp hvd)))) fun vs B5 _ h => ?_))
        obtain ⟨v1, v2, rfl, e1, e2⟩ := holds2 h
        exact ⟨v1, v2, _, _, rfl, e1, e2, hnz.1, fun m hm => mem_sortS.mpr (hnz.2 m hm), by have := sub_len hnz.1 hnz.2; omega, rfl⟩
      · obtain ⟨⟨o, rfl⟩, st⟩ := hP
        have hpn := st.same _ _ hp
        have hBn : B' p = none := st.non p hBp (by rw [hp]; simp)
        refine ws_fld (P := Pd.kv K (rowsD (sortN nd))) ?_ st.lo (fun s => (ev_name (i := 0) rfl)) hpn T.c_Net T.n_Net_rows (by decide) fun v B6 H6 s6 hv h6 => ?_
        · refine EvP.imp (cb_dcL 2 (as := sortS (keysN nd)) (G := fun z => .tuple ((lookN nd z).map .str)) (ev_d (ev_name (i := 3) rfl) (lb.dp hvd)) (sortS_nodup.mpr ok.nd) (fun z hz B5 lb s1 H1 C cl fp => (ev_name (i := 2) rfl)) (fun z hz B5 lb s1 H1 C cl fp => ?_) (by rw [sortS_len]; show (nd.map (·.1)).length ≤ _; omega)) (fun v H' _ h => by
            unfold sortN rowsD
            rw [List.map_map]
            exact h)
          have hz2 : z ∈ nd.map (·.1) := mem_sortS.mp hz
          exact ed_tupT T.f_tuple rfl (ed_get (ev_name (i := 1) rfl) (KvAt.le (st.up.trans lb) ⟨kvs, hd, hkv⟩) (ev_name (i := 2) rfl) (rowsD_lookup hz2) hu1)
        · obtain ⟨a, kv2, e1, g1, g2⟩ := hv
          subst e1
          have t := st.trans s6
          exact ws_nil (k _ _ _ _ (t.x.after (List.mem_singleton.mpr rfl) hBp (by rw [hp]; simp)) upd_same (t.non p hBp (by rw [hp]; simp)) ⟨a, rfl, kv2, g1, g2⟩)
def A_Net_names (K : PySem.W.Frag) : List V → Hp → Pd → Prop := fun vs B R => ∃ q rows, vs = [.ref q] ∧ NetAt K B q rows ∧ R = Pd.dl K ((keysN rows).map .str)
theorem met_Net_names : C8.Met P w K mg base 1 (cNet K) "names" (pureSp (A_Net_names K)) [] :=
  met_pure T.d_Net_names T.c_Net T.m_Net_names ⟨rfl, rfl, rfl, by decide +kernel, rfl, by decide +kernel, by decide +kernel⟩ (fun _ _ _ _ _ _ us hl => match us, hl with | [_], _ => rfl) (N := ["self"]) (ps := ["self"]) (fun vs B R ⟨_, _, e, _⟩ => by rw [e]; rfl)
    fun cdv A0 outer s H0 E vs B H R D hr l ⟨q, rows, e, ⟨dx, r, h1, kvs, h2, h3⟩, eR⟩ q1 q2 => by
      subst e
      subst eR
      refine ws_ret (P := Pd.dl K ((keysN rows).map .str)) ?_ l q1
      exact el_ofD T.f_list rfl rfl (ev_fld (ev_name (i := 0) rfl) h1 T.c_Net T.n_Net_rows rfl) h2 (by rw [h3.keys, rowsD_keys])
def A_Net_look (K : PySem.W.Frag) : List V → Hp → Pd → Prop := fun vs B R => ∃ q rows n, vs = [.ref q, .str n] ∧ NetAt K B q rows ∧ n ∈ keysN rows ∧ R = Pd.v .non
theorem met_Net_look : C8.Met P w K mg base 1 (cNet K) "look_at_name" (pureSp (A_Net_look K)) [] :=
  met_pure T.d_Net_look_at_name T.c_Net T.m_Net_look_at_name ⟨rfl, rfl, rfl, by decide +kernel, rfl, by decide +kernel, by decide +kernel⟩ (fun _ _ _ _ _ _ us hl => match us, hl with | [_, _], _ => rfl) (N := ["self", "name"]) (ps := ["self", "name"]) (fun vs B R ⟨_, _, _, e, _⟩ => by rw [e]; rfl)
    fun cdv A0 outer s H0 E vs B H R D hr l ⟨q, rows, n, e, ⟨dx, r, h1, h2⟩, hn, eR⟩ q1 q2 => by
      subst e
      subst eR
      have hu : (Cb P w K mg base ["self", "name"] "Net.look_at_name" (defScope s_Net_look_at_name) (He.ma K (cNet K) "look_at_name") cdv A0 outer s H0 E).A.units + 1 < cLine := by have := hr.un; omega
      refine ws_ifN (et_or2 (k := false) (j := false) ?_ fun _ => ?_) l fun H1 s1 => ws_nil (q2 _ _ _ (.keep l s1) rfl)
      · exact et_not (k := true) (et_v (ev_isd (d := .str n) T.f_isinstance T.f_str (ev_d (ev_name (i := 1) rfl) (.str n))))
      · exact et_ninK (ev_name (i := 1) rfl) (ev_fld (ev_name (i := 0) rfl) h1 T.c_Net T.n_Net_rows rfl) h2 (by rw [rowsD_keys]; simp [hn]) hu
def A_Net_get (K : PySem.W.Frag) : List V → Hp → Pd → Prop := fun vs B R => ∃ q rows n, vs = [.ref q, .str n] ∧ NetAt K B q rows ∧ n ∈ keysN rows ∧ R = Pd.d K (.tuple ((lookN rows n).map .str))
theorem fn_Net_get : ∃ fd, FnOk P w K mg base CX0 2 (He.ma K (cNet K) "__getitem__") fd ["self", "name"] (pureSp (A_Net_get K)) ∧ Binds K fd ["self", "name"] [] := by
  obtain ⟨fd, F⟩ := T.d_Net_getitem
  refine ⟨fd, fn_pure F (N := ["self", "name"]) ⟨rfl, rfl, rfl, by decide +kernel, rfl, by decide +kernel, by decide +kernel⟩ (fun vs B R ⟨_, _, _, e, _⟩ => by rw [e]; rfl) ?_, F.bindsN (fun _ _ _ _ _ _ us hl => match us, hl with | [_, _], _ => rfl)⟩
  intro cdv A0 outer s H0 E vs B H R D hr l ⟨q, rows, n, e, ⟨dx, r, h1, h2⟩, hn, eR⟩ q1 q2
  subst e
  subst eR
  have hu : (Cb P w K mg base ["self", "name"] "Net.__getitem__" (defScope s_Net_getitem) (He.ma K (cNet K) "__getitem__") cdv A0 outer s H0 E).A.units + 1 < cLine := by have := hr.un; omega
  refine ws_expr (P := Pd.v .non) (ev_meth (met_Net_look T) hr (ev_name (i := 0) rfl) h1 rfl (ea_1 (ev_name (i := 1) rfl)) fun vs B1 l1 h => ?_) l fun v B1 H1 s1 _ => ?_
  · obtain ⟨v, rfl, e⟩ := holds1 h
    exact ⟨q, rows, n, by rw [show v = _ from e], ⟨dx, r, l1.ins h1, h2.le l1⟩, hn, rfl⟩
  · refine ws_ret (P := Pd.d K (.tuple ((lookN rows n).map .str))) ?_ s1.lo fun v B' H' st => q1 v B' H' (s1.trans st)
    exact ed_get (ev_fld (ev_name (i := 0) rfl) (s1.up.ins h1) T.c_Net T.n_Net_rows rfl) (h2.le s1.up) (ev_name (i := 1) rfl) (rowsD_lookup hn) hu
/-- what a name lacks -/
def lacksN (rows : List (Str × List Str)) (n : Str) (made : List Str) : Bool := !(lookN rows n).all fun m => decide (m ∈ made)
def A_Net_lacks (K : PySem.W.Frag) : List V → Hp → Pd → Prop := fun vs B R => ∃ q rows n vm ms, vs = [.ref q, .str n, vm] ∧ NetAt K B q rows ∧ OkNet rows ∧ n ∈ keysN rows ∧ Dp K B vm (.list (ms.map .str)) ∧ R = Pd.v (.bl (lacksN rows n ms))
theorem met_Net_lacks : C8.Met P w K mg base 1 (cNet K) "lacks" (pureSp (A_Net_lacks K)) [] :=
  met_pure T.d_Net_lacks T.c_Net T.m_Net_lacks ⟨rfl, rfl, rfl, by decide +kernel, rfl, by decide +kernel, by decide +kernel⟩ (fun _ _ _ _ _ _ us hl => match us, hl with | [_, _, _], _ => rfl) (N := ["self", "name", "made", "need"]) (ps := ["self", "name", "made"]) (fun vs B R ⟨_, _, _, _, _, e, _⟩ => by rw [e]; rfl)
    fun cdv A0 outer s H0 E vs B H R D hr l ⟨q, rows, n, vm, ms, e, ⟨dx, r, h1, h2⟩, ok, hn, hm, eR⟩ q1 q2 => by
      subst e
      subst eR
      have hu : (Cb P w K mg base ["self", "name", "made", "need"] "Net.lacks" (defScope s_Net_lacks) (He.ma K (cNet K) "lacks") cdv A0 outer s H0 E).A.units + 64 < cLine := by have := hr.un; omega
      have hu1 : (Cb P w K mg base ["self", "name", "made", "need"] "Net.lacks" (defScope s_Net_lacks) (He.ma K (cNet K) "lacks") cdv A0 outer s H0 E).A.units + 1 < cLine := by omega
      have hl := sub_len (ok.need n hn).1 (ok.need n hn).2
      have h5 := ok.hi
      rw [List.length_map] at hl
      have hsub : ∀ z ∈ (lookN rows n).filter (fun c => !decide (c ∈ ms)), okName z = true := fun z hz => ok.nm z ((ok.need n hn).2 z (List.mem_filter.mp hz).1)
      refine ws_ret (P := Pd.v (.bl (lacksN rows n ms))) ?_ l q1
      refine ev_ned hu (d1 := .list (((lookN rows n).filter fun c => !decide (c ∈ ms)).map .str)) (d2 := .list []) (EvL.toD ?_) ed_nilL (shapedL hsub) rfl ?_
      · refine cb_lcT 3 (as := lookN rows n) (φ := .str) (F := fun c => !decide (c ∈ ms)) (G := .str) (ed_get (ev_fld (ev_name (i := 0) rfl) h1 T.c_Net T.n_Net_rows rfl) h2 (ev_name (i := 1) rfl) (rowsD_lookup hn) hu1) (fun c hc v B1 lb hp s1 H1 C cl fp => ei_one ?_) (fun c hc hF v B1 lb hp s1 H1 C cl fp => ev_d (ev_name (i := 3) rfl) hp) (by omega)
        rw [dp_str hp]
        exact et_ninL (ev_name (i := 3) rfl) (ev_d (ev_name (i := 2) rfl) (lb.dp hm)) rfl
      · rw [eqv_nil]
        unfold lacksN
        congr 1
        rw [Bool.eq_iff_iff]
        simp [List.all_eq_true, List.isEmpty_iff, List.filter_eq_nil_iff]
end
end K57

set_option Elab.async false
set_option linter.all false
set_option maxRecDepth 100000
set_option maxHeartbeats 4000000
/-! ZO: nets.py, the order. -/
namespace K57
open PySem PySem.Spec PyProof.Rows L2
def readyN (rows : List (Str × List Str)) (found : List Str) : List Str := (keysN rows).filter fun n => !decide (n ∈ found) && !lacksN rows n found
def orderF (rows : List (Str × List Str)) : Nat → List Str → Option (List Str)
  | 0, found => some found
  | k + 1, found => match readyN rows found with
    | [] => none
    | r :: _ => orderF rows k (found ++ [r])
def orderN (rows : List (Str × List Str)) : Option (List Str) := orderF rows rows.length []
def orderD : Option (List Str) → PyData
  | none => .none
  | some l => .list (l.map .str)
theorem le_put {B H : Hp} {a : Addr} {o : HO} (l : Le B H) (h : H a = some o) : Le (upd B a o) H := fun x u hx => by
  by_cases q : x = a
  · subst q
    rw [upd_same] at hx
    cases hx
    exact .inl h
  · rw [upd_ne q] at hx
    exact l x u hx
section
variable {P : Program} {w : World} {K : PySem.W.Frag} {mg : Str → Option Value} {base : Heap} (T : Tx P K mg)
include T
def A_Net_order (K : PySem.W.Frag) : List V → Hp → Pd → Prop := fun vs B R => ∃ q rows, vs = [.ref q] ∧ NetAt K B q rows ∧ OkNet rows ∧ R = Pd.d K (orderD (orderN rows))
theorem met_Net_order : C8.Met P w K mg base 2 (cNet K) "order" (pureSp (A_Net_order K)) [] :=
  met_pure T.d_Net_order T.c_Net T.m_Net_order ⟨rfl, rfl, rfl, by decide +kernel, rfl, by decide +kernel, by decide +kernel⟩ (fun _ _ _ _ _ _ us hl => match us, hl with | [_], _ => rfl) (N := ["self", "found", "ready", "name"]) (ps := ["self"]) (fun vs B R ⟨_, _, e, _⟩ => by rw [e]; rfl)
    fun cdv A0 outer s H0 E vs B H R D hr l ⟨q, rows, e, ⟨dx, r, h1, h2⟩, ok, eR⟩ q1 q2 => by
      subst e
      subst eR
      have hu : (Cb P w K mg base ["self", "found", "ready", "name"] "Net.order" (defScope s_Net_order) (He.ma K (cNet K) "order") cdv A0 outer s H0 E).A.units + 64 < cLine := by have := hr.un; omega
      have h5 := ok.hi
      have hlen : (rowsD rows).length = rows.length := by unfold rowsD; rw [List.length_map]
      refine cb_nil 1 fun a ha => ?_
      have hBa : B a = none := le_none l ha
      refine cb_while (fun m σ' H' => ∃ (found : List Str) (o : Option V), σ' = [some (.ref q), some (.ref a), o, none] ∧ Same H H' ∧ Le B H' ∧ H' a = some (.lst (found.map .str)) ∧ m + found.length = rows.length ∧ orderF rows m found = orderN rows ∧ ∀ n ∈ found, n ∈ keysN rows) rows.length
        ⟨[], none, rfl, same_new ha, l.mut hBa, upd_same, rfl, rfl, fun n hn => by simp at hn⟩ ?_
      rintro m σ' H' ⟨found, o, rfl, sm, lb, hf, hm, ho, hk⟩
      have lb1 := le_put lb hf
      have up1 : Le B (upd B a (.lst (found.map .str))) := Le.new hBa
      have hdf : Dp K (upd B a (.lst (found.map .str))) (.ref a) (.list (found.map .str)) := .lst (.of upd_same) (dpa_strs found)
      have h1' := up1.ins h1
      obtain ⟨kvs, h3, h4⟩ := h2.le up1
      have hkl : kvs.length = rows.length := by rw [h4.len, hlen]
      refine WT.mono (et_lt (k := decide (found.length < rows.length)) (ev_lenL T.f_len (ev_d (ev_name (i := 1) rfl) hdf)) (ev_lenD T.f_len (ev_fld (ev_name (i := 0) rfl) h1' T.c_Net T.n_Net_rows rfl) h3) (by rw [hkl, List.length_map]; simp) H' lb1) fun b' H2 ⟨eb, s2⟩ => ?_
      subst eb
      by_cases hlt : found.length < rows.length
      · rw [if_pos (decide_eq_true hlt)]
        have lb2 := lb1.trans (le_of s2)
        refine cb_setLcK 2 3 (ss := keysN rows) (F := fun n => !decide (n ∈ found) && !lacksN rows n found) (G := .str) lb2 (ev_fld (ev_name (i := 0) rfl) h1' T.c_Net T.n_Net_rows rfl) h3 (by rw [h4.keys, rowsD_keys]) (fun c hc v B1 lb hp s1 H1 C cl fp => ei_one ?_) (fun c hc hF v B1 lb hp s1 H1 C cl fp => ev_d (ev_name (i := 3) rfl) hp) (by rw [List.length_map]; omega) fun v B3 H3 s3 hv => ?_
        · rw [dp_str hp]
          refine et_and2 (et_ninL (ev_name (i := 3) rfl) (ev_d (ev_name (i := 1) rfl) (lb.dp hdf)) rfl) fun _ => et_not (et_v (ev_meth (met_Net_lacks T) hr (ev_name (i := 0) rfl) (lb.ins h1') rfl (ea_cons (ev_name (i := 3) rfl) (ea_1 (ev_d (ev_name (i := 1) rfl) (lb.dp hdf)))) fun vs B2 l2 h => ?_))
          obtain ⟨v1, v2, rfl, e1, e2⟩ := holds2 h
          exact ⟨q, rows, c, v2, found, by rw [show v1 = _ from e1], ⟨dx, r, l2.ins (lb.ins h1'), (h2.le up1).le (lb.trans l2)⟩, ok, hc, e2, rfl⟩
        · have hvd : Dp K B3 v (.list ((readyN rows found).map .str)) := by
            obtain ⟨a, xs, e1, h1, h2⟩ := hv
            rw [e1]
            exact .lst (.of h1) h2
          have sm3 := (sm.trans s2).trans s3.same
          have lB3 : Le B H3 := (lb.trans (le_of s2)).trans (le_of s3.same)
          refine ws_if (k := (readyN rows found).isEmpty) (et_eqd hu (ev_d (ev_name (i := 2) rfl) hvd) ed_nilL (shapedL fun z hz => ok.nm z (List.mem_filter.mp hz).1) rfl (by rw [eqv_nil, List.isEmpty_map])) s3.lo (fun e H4 s4 => ?_) (fun e H4 s4 => ?_)
          · refine ws_ret (P := Pd.v .non) ev_none (lB3.trans (le_of s4)) fun v B5 H5 s5 e5 => q1 v B5 H5 ((Stp.keep l (sm3.trans s4)).trans s5) ?_
            have e6 : orderN rows = none := by
              rw [← ho]
              obtain ⟨j, rfl⟩ : ∃ j, m = j + 1 := ⟨m - 1, by omega⟩
              unfold orderF
              rw [List.isEmpty_iff.mp e]
            rw [e6, show v = _ from e5]
            exact .non
          · obtain ⟨z, t, ez⟩ : ∃ z t, readyN rows found = z :: t := by
              cases hz : readyN rows found with
              | nil => rw [hz] at e; cases e
              | cons z t => exact ⟨z, t, rfl⟩
            rw [ez] at hvd
            refine ws_nil (cb_app (P1 := Pd.v (.str z)) (ev_sc (d := .str z) (ed_ixL (ev_d (ev_name (i := 2) rfl) hvd) ev_int (atI_nat (j := 0) rfl)) rfl) (s3.lo.trans (le_of s4)) (ev_name (i := 1) rfl) (s4 _ _ (s3.same _ _ (s2 _ _ hf))) (by rw [List.length_map]; omega) fun v B5 H5 s5 e5 h5 => ?_)
            rw [show v = _ from e5]
            have hz : z ∈ keysN rows := by
              have : z ∈ readyN rows found := by rw [ez]; exact List.mem_cons_self ..
              exact (List.mem_filter.mp this).1
            refine ws_nil ⟨m - 1, by omega, found ++ [z], _, rfl, same_mut ((sm3.trans s4).trans s5.same) ha, ((lB3.trans (le_of s4)).trans (le_of s5.same)).mut hBa, by rw [upd_same, List.map_append]; rfl, by rw [List.length_append, List.length_singleton]; omega, ?_, fun n hn => ?_⟩
            · rw [← ho]
              obtain ⟨j, rfl⟩ : ∃ j, m = j + 1 := ⟨m - 1, by omega⟩
              rw [orderF, ez]
              rfl
            · rcases List.mem_append.mp hn with g | g
              · exact hk n g
              · rw [List.mem_singleton.mp g]
                exact hz
      · rw [if_neg (by rw [decide_eq_false hlt]; exact Bool.false_ne_true)]
        refine ws_ret (P := Pd.v (.ref a)) (ev_name (i := 1) rfl) (lb.trans (le_of s2)) fun v B5 H5 s5 e5 => ?_
        rw [show v = _ from e5]
        have sm5 := (sm.trans s2).trans s5.same
        have h6 := s5.same _ _ (s2 _ _ hf)
        refine q1 _ _ _ (Stp.own (Stp.keep l sm5) ha h6 hBa) ?_
        have e6 : orderN rows = some found := by
          rw [← ho]
          have : m = 0 := by omega
          rw [this]
          rfl
        rw [e6]
        exact .lst (.of upd_same) (dpa_strs found)
end
end K57

set_option Elab.async false
set_option linter.all false
set_option maxRecDepth 100000
set_option maxHeartbeats 4000000
/-! ZQ: for over a dict's keys. -/
namespace K57
open PySem PySem.Spec PyProof.Rows L2
structure Lck (B H : Hp) (d : Addr) (kvs : List (Key × V)) (H2 : Hp) (U : Hp → Hp) : Prop where
  le : Le B H2
  fz : ∃ od, H2 d = some (.frz od (.dK kvs))
  off : ∀ H3 a, a ≠ d → U H3 a = H3 a
  un : ∀ {S : List Addr} {B3 H3 : Hp}, d ∉ S → StpX S B H2 B3 H3 → StpX S B H B3 (U H3)
  leU : ∀ {B3 H3 : Hp}, H3 d = H2 d → Le B3 H3 → Le B3 (U H3)
  same : ∀ a o, a ≠ d → H a = some o → H2 a = some o
  free : ∀ a, a ≠ d → H2 a = none → H a = none
section
variable {P : Program} {w : World} {K : PySem.W.Frag} {mg : Str → Option Value} {base : Heap} {N : List Str} {qual : Str} {sc scope : Scope} {f : Addr} {cdv : Value} {A0 : Around} {outer : List Env} {s0 : Shared} {H0 : Hp} {E0 : XK} {iter : Expr} {σ : L2.St} {B H : Hp} {pos px : Pos} {D : Ends} {rest body : List Stmt} {x : Str}
theorem cb_forK (j : Nat) {d : Addr} {kvs : List (Key × V)} {ks : List Str} (h : Ev (Cb P w K mg base N qual sc f cdv A0 outer s0 H0 E0) iter σ B (.ref d)) (hd : Rd B d (.dK kvs)) (hk : kvs.map (·.1) = ks.map Sum.inr) (l : Le B H)
    (body_ok : ∀ (H2 : Hp) (U : Hp → Hp), Lck B H d kvs H2 U → ∃ Pv : Nat → L2.St → Hp → Prop, Pv 0 σ H2 ∧ (∀ i σ' H', Pv i σ' H' → H' d = H2 d) ∧
      (∀ i z σ' H', ks[i]? = some z → Pv i σ' H' → WSs (Cb P w K mg base N qual sc f cdv A0 outer s0 H0 E0) body ⟨Pv (i + 1), fun v H3 => H3 d = H2 d ∧ D.rt v (U H3), fun σ3 H3 => H3 d = H2 d ∧ WSs (Cb P w K mg base N qual sc f cdv A0 outer s0 H0 E0) rest D σ3 (U H3), Pv (i + 1)⟩ (σ'.set j (some (.str z))) H') ∧
      (∀ σ' H', Pv ks.length σ' H' → WSs (Cb P w K mg base N qual sc f cdv A0 outer s0 H0 E0) rest D σ' (U H')))
    (hf : ∀ x, foldedSetIterable iter (Cb P w K mg base N qual sc f cdv A0 outer s0 H0 E0).env x = pure x := by intro _; rfl) (nd : decide N.Nodup = true := by rfl) (hi : N[j]? = some x := by rfl) (hx : Loc sc x := by first | exact Or.inl rfl | exact Or.inr rfl)
    (hfn : (Cb P w K mg base N qual sc f cdv A0 outer s0 H0 E0).fn x = true ∨ sc.names.lookup x = some .local := by first | exact .inl rfl | exact .inr rfl) : WSs (Cb P w K mg base N qual sc f cdv A0 outer s0 H0 E0) (.For (.Name x px) iter body [] pos :: rest) D σ H := by
  have bs := ps_for (X := (Cb P w K mg base N qual sc f cdv A0 outer s0 H0 E0)) (pos := pos) PassesOwn.never rfl (pi_keys (tg := .Name x px) (pe_w (e := iter))) (pg_name (pos := px) (of_decide_eq_true nd) hi hx hfn) (pss_w (st := body)) hf
  have hlen : kvs.length = ks.length := by
    have e := congrArg List.length hk
    rw [List.length_map, List.length_map] at e
    exact e
  -- the walk, at a locked dict
  have go : ∀ (H1 : Hp) (od : Obj) (U : Hp → Hp) (D' : Ends), H1 d = some (.frz od (.dK kvs)) → Le B H1 → (∀ H2, Same H1 H2 → Lck B H d kvs H2 U) →
      (∀ σ' H', H' d = some (.frz od (.dK kvs)) → WSs (Cb P w K mg base N qual sc f cdv A0 outer s0 H0 E0) rest D σ' (U H') → D'.nx σ' H') → (∀ v H', H' d = some (.frz od (.dK kvs)) → D.rt v (U H') → D'.rt v H') →
      tFor (iKeys (WE (Cb P w K mg base N qual sc f cdv A0 outer s0 H0 E0) iter)) (gName j) (WSs (Cb P w K mg base N qual sc f cdv A0 outer s0 H0 E0) body) D' σ H1 := fun H1 od U D' hd1 l1 lk k1 k2 => by
    refine (h H1 l1).mono fun v H2 ⟨B2, s, (p : v = .ref d)⟩ => ?_
    have hd2 := s.same _ _ hd1
    obtain ⟨Pv, p0, pf, ps, pd⟩ := body_ok H2 U (lk H2 s.same)
    refine ⟨d, od, p, .inl ⟨kvs, hd2, for_it walk_keys Pv p0 (fun i σ' H' _ pv => (pf i σ' H' pv).trans hd2) (fun i x σ' H' H'' hi pv ⟨e2, k, wv, hx, ex⟩ => ?_) (fun σ' H' pv => ?_)⟩⟩
    · subst e2 ex
      have h3 : (kvs.map (·.1))[i]? = some k := by rw [List.getElem?_map, hx]; rfl
      rw [hk, List.getElem?_map] at h3
      obtain ⟨z, hz, rfl⟩ := Option.map_eq_some_iff.mp h3
      show WSs (Cb P w K mg base N qual sc f cdv A0 outer s0 H0 E0) body _ _ _
      refine WSs.mono (ps i z σ' H'' hz pv) (fun _ _ q => q) (fun v H3 q => k2 v H3 (q.1.trans hd2) q.2) (fun σ3 H3 q => k1 σ3 H3 (q.1.trans hd2) q.2) (fun _ _ q => q)
    · rw [hlen] at pv
      exact k1 σ' H' ((pf _ σ' H' pv).trans hd2) (pd σ' H' pv)
  rcases l.dk hd with q | ⟨od, q⟩
  · refine ws_cons (ps_lock bs) ⟨d, _, q, True.intro, fun od => ?_⟩
    have l1 : Le B (upd H d (.frz od (.dK kvs))) := l.trans (Le.lock (.inl q))
    refine go (upd H d (.frz od (.dK kvs))) od (fun H3 => upd H3 d (.dK kvs)) _ upd_same l1 (fun H2 s => ?_) (fun σ' H' h1 h2 => ⟨h1, h2⟩) (fun v H' h1 h2 => ⟨h1, h2⟩)
    have hd2 : H2 d = some (.frz od (.dK kvs)) := s _ _ upd_same
    have sm : ∀ a o, a ≠ d → H a = some o → H2 a = some o := fun a o na ha => s a o (by rw [upd_ne na]; exact ha)
    refine ⟨l1.trans (le_of s), ⟨od, hd2⟩, fun H3 a na => upd_ne na, fun {S B3 H3} hS t => ?_, fun {B3 H3} e l3 => l3.trans (Le.unlock (.inr ⟨od, e.trans hd2⟩)), sm, fun a na e => ?_⟩
    · have hd3 : H3 d = some (.frz od (.dK kvs)) := t.same d _ hS hd2
      refine ⟨fun a o na ha => ?_, t.up, t.lo.trans (Le.unlock (.inr ⟨od, hd3⟩)), fun a hb hh => t.non a hb ?_⟩
      · by_cases e : a = d
        · subst e
          rw [upd_same, ← q, ha]
        · rw [upd_ne e]
          exact t.same a o na (sm a o e ha)
      · by_cases e : a = d
        · rw [e, hd2]
          simp
        · cases ho : H a with
          | none => exact absurd ho hh
          | some o =>
            rw [sm a o e ho]
            simp
    · cases ho : H a with
      | none => rfl
      | some o =>
        rw [sm a o na ho] at e
        cases e
  · refine ws_cons bs (go H od (fun H3 => H3) _ q l (fun H2 s => ⟨l.trans (le_of s), ⟨od, s _ _ q⟩, fun _ _ _ => rfl, fun {S B3 H3} _ t => ⟨fun a o na ha => t.same a o na (s a o ha), t.up, t.lo, fun a hb hh => t.non a hb (same_some s hh)⟩, fun {B3 H3} _ l3 => l3, fun a o _ ha => s a o ha, fun a _ e => s.free e⟩) (fun σ' H' _ h2 => h2) (fun v H' _ h2 => h2))
end
end K57

set_option Elab.async false
set_option linter.all false
set_option maxRecDepth 100000
set_option maxHeartbeats 4000000
/-! ZM: books.py, the parts that read. -/
namespace K57
open PySem PySem.Spec PyProof.Rows L2
def okG (g : Str) : Prop := g = "own" ∨ g = "one"
/-- the dict of a net book -/
def OwnAt (K : PySem.W.Frag) (H : Hp) (d : Addr) (g : Str) (rows : List (Str × List Str)) : Prop := ∃ q : Addr, Rd H d (.dK [(.inr "guard", V.str g), (.inr "needs", V.ref q)]) ∧ NetAt K H q rows
theorem OwnAt.le {K : PySem.W.Frag} {H H' : Hp} {d : Addr} {g : Str} {rows : List (Str × List Str)} (e : Le H H') (h : OwnAt K H d g rows) : OwnAt K H' d g rows := let ⟨q, h1, h2⟩ := h; ⟨q, e.dk h1, h2.le e⟩
/-- a net book's fields -/
def BookFs (K : PySem.W.Frag) (H : Hp) (fs : List (Str × V)) (g : Str) (rows : List (Str × List Str)) : Prop := ∃ lo d : Addr, fs = [(("order_of_words" : Str), V.ref lo), (("own" : Str), V.ref d)] ∧ OwnAt K H d g rows
def BookAt (K : PySem.W.Frag) (H : Hp) (p : Addr) (g : Str) (rows : List (Str × List Str)) : Prop := ∃ dx fs, H p = some (.ins (cNetBook K) dx fs) ∧ BookFs K H fs g rows
theorem BookFs.le {K : PySem.W.Frag} {H H' : Hp} {fs : List (Str × V)} {g : Str} {rows : List (Str × List Str)} (e : Le H H') (h : BookFs K H fs g rows) : BookFs K H' fs g rows := let ⟨lo, d, h1, h2⟩ := h; ⟨lo, d, h1, h2.le e⟩
theorem BookAt.le {K : PySem.W.Frag} {H H' : Hp} {p : Addr} {g : Str} {rows : List (Str × List Str)} (e : Le H H') (h : BookAt K H p g rows) : BookAt K H' p g rows := let ⟨dx, fs, h1, h2⟩ := h; ⟨dx, fs, e.ins h1, h2.le e⟩
def Pd.book (K : PySem.W.Frag) (g : Str) (rows : List (Str × List Str)) : Pd := ⟨fun x H => ∃ p, x = .ref p ∧ BookAt K H p g rows, fun e ⟨p, h1, h2⟩ => ⟨p, h1, h2.le e⟩⟩
theorem okG_names : ∀ z ∈ (["own", "one"] : List Str), okName z = true := by decide +kernel
section
variable {P : Program} {w : World} {K : PySem.W.Frag} {mg : Str → Option Value} {base : Heap} (T : Tx P K mg)
include T
def A_is_same : List V → Hp → Pd → Prop := fun vs _ R => ∃ a b : Str, vs = [.str a, .str b] ∧ R = Pd.v (.bl (decide (a = b)))
theorem cal_is_same : C8.Cal P w K mg base 1 "is_same" (pureSp A_is_same) [] :=
  cal_pure T.d_is_same T.g_is_same ⟨rfl, rfl, rfl, by decide +kernel, rfl, by decide +kernel, by decide +kernel⟩ (fun _ _ _ _ _ _ us hl => match us, hl with | [_, _], _ => rfl) (N := ["value", "one", "word"]) (ps := ["value", "one"]) (fun vs B R ⟨_, _, e, _⟩ => by rw [e]; rfl)
    fun cdv A0 outer s H0 E vs B H R D hr l ⟨a, b, e, eR⟩ q1 q2 => by
      subst e
      subst eR
      refine ws_ifY (et_v (ev_isd (d := .str b) T.f_isinstance T.f_str (ev_d (ev_name (i := 1) rfl) (.str b)))) l fun H1 s1 => ?_
      refine ws_ret (P := Pd.v (.bl (decide (a = b)))) ?_ (l.trans (le_of s1)) fun v B' H' st => q1 v B' H' ((Stp.keep l s1).trans st)
      refine ev_eq (ev_and (k := true) (j := decide (a = b)) (ev_isd (d := .str a) T.f_isinstance T.f_str (ev_d (ev_name (i := 0) rfl) (.str a))) fun _ => ev_eqs (ev_name (i := 0) rfl) (ev_name (i := 1) rfl) rfl (by simp)) (by simp)
def A_is_value (K : PySem.W.Frag) : List V → Hp → Pd → Prop := fun vs B R => ((∃ x g, vs = [x, .str "guard", .str g] ∧ okG g) ∨ ∃ x q rows, vs = [x, .str "needs", .ref q] ∧ NetAt K B q rows) ∧ R = Pd.v (.bl true)
theorem met_is_value : C8.Met P w K mg base 2 (cNetBook K) "is_value" (pureSp (A_is_value K)) [] :=
  met_pure T.d_NetBook_is_value T.c_NetBook T.m_NetBook_is_value ⟨rfl, rfl, rfl, by decide +kernel, rfl, by decide +kernel, by decide +kernel⟩ (fun _ _ _ _ _ _ us hl => match us, hl with | [_, _, _], _ => rfl) (N := ["self", "word", "value", "one"]) (ps := ["self", "word", "value"]) (fun vs B R ⟨h, _⟩ => by rcases h with ⟨_, _, e, _⟩ | ⟨_, _, _, e, _⟩ <;> rw [e] <;> rfl)
    fun cdv A0 outer s H0 E vs B H R D hr l ⟨h, eR⟩ q1 q2 => by
      subst eR
      rcases h with ⟨x, g, e, hg⟩ | ⟨x, q, rows, e, dx, r, h1, h2⟩
      · subst e
        refine ws_ifN (et_eqs (ev_name (i := 1) rfl) ev_str rfl (by decide +kernel)) l fun H1 s1 => ?_
        refine ws_ret (P := Pd.v (.bl true)) ?_ (l.trans (le_of s1)) fun v B' H' st => q1 v B' H' ((Stp.keep l s1).trans st)
        refine ev_ned (ru64 hr) (d1 := .list (((["own", "one"] : List Str).filter fun c => decide (g = c)).map .str)) (d2 := .list []) (EvL.toD ?_) ed_nilL (shapedL fun z hz => okG_names z (List.mem_filter.mp hz).1) rfl ?_
        · refine cb_lcT 3 (as := (["own", "one"] : List Str)) (φ := .str) (F := fun c => decide (g = c)) (G := .str) (ev_d (ev_glob (v := .ref (He.ga K "GUARDS")) rfl T.g_GUARDS rfl) (.tup (T.t_GUARDS B) (dpa_strs _))) (fun c hc v B1 lb hp s1 H1 C cl fp => ei_one ?_) (fun c hc hF v B1 lb hp s1 H1 C cl fp => ev_d (ev_name (i := 3) rfl) hp) (by decide)
          refine et_v (ev_call (cal_is_same T) hr (ea_cons (ev_name (i := 2) rfl) (ea_1 (ev_name (i := 3) rfl))) fun vs B2 _ h => ?_)
          obtain ⟨v1, v2, rfl, e1, e2⟩ := holds2 h
          exact ⟨g, c, by rw [show v1 = _ from e1, show v2 = _ from e2, dp_str hp], rfl⟩
        · rw [eqv_nil]
          rcases hg with rfl | rfl <;> decide +kernel
      · subst e
        refine ws_ifY (et_eqs (ev_name (i := 1) rfl) ev_str rfl (by decide +kernel)) l fun H1 s1 => ?_
        refine ws_ret (P := Pd.v (.bl true)) ?_ (l.trans (le_of s1)) fun v B' H' st => q1 v B' H' ((Stp.keep l s1).trans st)
        exact ev_isi T.f_isinstance rfl (ev_name (i := 2) rfl) (ev_glob (v := .ref (cNet K)) rfl T.g_Net rfl) (.own _) T.isi_Net (fun v B1 l1 (e : v = _) H' l2 => by rw [e]; exact T.ty_Net ((l1.trans l2).ins h1))
def A_first_wrong (K : PySem.W.Frag) : List V → Hp → Pd → Prop := fun vs B R => ∃ p d dx fs g rows, vs = [.ref p, .ref d] ∧ B p = some (.ins (cNetBook K) dx fs) ∧ fs.lookup ("is_value" : Str) = none ∧ OwnAt K B d g rows ∧ okG g ∧ R = Pd.v .non
theorem met_first_wrong : C8.Met P w K mg base 3 (cNetBook K) "first_wrong" (pureSp (A_first_wrong K)) [] :=
  met_pure T.d_Book_first_wrong T.c_NetBook T.m_NetBook_first_wrong ⟨rfl, rfl, rfl, by decide +kernel, rfl, by decide +kernel, by decide +kernel⟩ (fun _ _ _ _ _ _ us hl => match us, hl with | [_, _], _ => rfl) (N := ["self", "own", "word"]) (ps := ["self", "own"]) (fun vs B R ⟨_, _, _, _, _, _, e, _⟩ => by rw [e]; rfl)
    fun cdv A0 outer s H0 E vs B H R D hr l ⟨p, d, dx, fs, g, rows, e, hp, hfs, ⟨q, h1, h2⟩, hg, eR⟩ q1 q2 => by
      subst e
      subst eR
      refine cb_forK 2 (ks := ["guard", "needs"]) (ev_name (i := 1) rfl) h1 rfl l fun H2 U lk => ⟨fun i σ' H' => (∃ o, σ' = [some (.ref p), some (.ref d), o]) ∧ Same H2 H', ⟨⟨none, rfl⟩, Same.refl _⟩, fun i σ' H' h => by
        obtain ⟨od, e⟩ := lk.fz
        rw [e]
        exact h.2 _ _ e, fun i z σ' H' hz h => ?_, fun σ' H' h => ?_⟩
      · obtain ⟨⟨o, rfl⟩, sm⟩ := h
        have lb := lk.le.trans (le_of sm)
        refine ws_ifN (et_not (k := true) (et_v ?_)) lb fun H3 s3 => ws_nil ⟨⟨_, rfl⟩, sm.trans s3⟩
        have hz2 : z = "guard" ∨ z = "needs" := by
          have := List.mem_of_getElem? hz
          simpa using this
        rcases hz2 with rfl | rfl
        · refine ev_meth (met_is_value T) hr (ev_name (i := 0) rfl) hp hfs (ea_cons (ev_name (i := 2) rfl) (ea_1 (ev_get (ev_name (i := 1) rfl) h1 (ev_name (i := 2) rfl) (v := .str g) rfl (ru1 hr)))) fun vs B2 _ h => ?_
          obtain ⟨v1, v2, rfl, e1, e2⟩ := holds2 h
          exact ⟨.inl ⟨_, g, by rw [show v1 = _ from e1, show v2 = _ from e2], hg⟩, rfl⟩
        · refine ev_meth (met_is_value T) hr (ev_name (i := 0) rfl) hp hfs (ea_cons (ev_name (i := 2) rfl) (ea_1 (ev_get (ev_name (i := 1) rfl) h1 (ev_name (i := 2) rfl) (v := .ref q) rfl (ru1 hr)))) fun vs B2 l2 h => ?_
          obtain ⟨v1, v2, rfl, e1, e2⟩ := holds2 h
          exact ⟨.inr ⟨_, q, rows, by rw [show v1 = _ from e1, show v2 = _ from e2], h2.le l2⟩, rfl⟩
      · have st := lk.un (S := []) (B3 := B) (H3 := H') (by simp) (Stp.keep lk.le h.2).x
        have st2 : Stp B H B (U H') := ⟨fun a o ha => st.same a o (by simp) ha, st.up, st.lo, st.non⟩
        exact ws_ret (P := Pd.v .non) ev_none st2.lo fun v B' H' s4 => q1 v B' H' (st2.trans s4)
def A_look_word (K : PySem.W.Frag) : List V → Hp → Pd → Prop := fun vs B R => ∃ p dx fs g rows wd, vs = [.ref p, .str wd] ∧ B p = some (.ins (cNetBook K) dx fs) ∧ BookFs K B fs g rows ∧ (wd = "guard" ∨ wd = "needs") ∧ R = Pd.v .non
theorem met_look_word : C8.Met P w K mg base 1 (cNetBook K) "look_at_word" (pureSp (A_look_word K)) [] :=
  met_pure T.d_Book_look_at_word T.c_NetBook T.m_NetBook_look_at_word ⟨rfl, rfl, rfl, by decide +kernel, rfl, by decide +kernel, by decide +kernel⟩ (fun _ _ _ _ _ _ us hl => match us, hl with | [_, _], _ => rfl) (N := ["self", "word"]) (ps := ["self", "word"]) (fun vs B R ⟨_, _, _, _, _, _, e, _⟩ => by rw [e]; rfl)
    fun cdv A0 outer s H0 E vs B H R D hr l ⟨p, dx, fs, g, rows, wd, e, hp, ⟨lo, d, ef, q, h1, h2⟩, hw, eR⟩ q1 q2 => by
      subst e
      subst eR
      subst ef
      refine ws_ifN (et_or2 (k := false) (j := false) ?_ fun _ => ?_) l fun H1 s1 => ws_nil (q2 _ _ _ (.keep l s1) rfl)
      · exact et_not (k := true) (et_v (ev_isd (d := .str wd) T.f_isinstance T.f_str (ev_d (ev_name (i := 1) rfl) (.str wd))))
      · exact et_nind (ev_name (i := 1) rfl) (ev_fld (ev_name (i := 0) rfl) hp T.c_NetBook T.n_NetBook_own rfl) h1 (by rcases hw with rfl | rfl <;> rfl) (ru1 hr)
def A_Book_get (K : PySem.W.Frag) : List V → Hp → Pd → Prop := fun vs B R => ∃ p g rows, BookAt K B p g rows ∧ ((vs = [.ref p, .str "guard"] ∧ R = Pd.v (.str g)) ∨ (vs = [.ref p, .str "needs"] ∧ R = Pd.net K rows))
theorem fn_Book_get : ∃ fd, FnOk P w K mg base CX0 2 (He.ma K (cNetBook K) "__getitem__") fd ["self", "word"] (pureSp (A_Book_get K)) ∧ Binds K fd ["self", "word"] [] := by
  obtain ⟨fd, F⟩ := T.d_Book_getitem
  refine ⟨fd, fn_pure F (N := ["self", "word"]) ⟨rfl, rfl, rfl, by decide +kernel, rfl, by decide +kernel, by decide +kernel⟩ (fun vs B R ⟨_, _, _, _, h⟩ => by rcases h with ⟨e, _⟩ | ⟨e, _⟩ <;> rw [e] <;> rfl) ?_, F.bindsN (fun _ _ _ _ _ _ us hl => match us, hl with | [_, _], _ => rfl)⟩
  intro cdv A0 outer s H0 E vs B H R D hr l ⟨p, g, rows, ⟨dx, fs, hp, hfs⟩, h⟩ q1 q2
  have ⟨lo, d, ef, q, h1, h2⟩ := hfs
  subst ef
  rcases h with ⟨e, eR⟩ | ⟨e, eR⟩
  · subst e eR
    refine ws_expr (P := Pd.v .non) (ev_meth (met_look_word T) hr (ev_name (i := 0) rfl) hp rfl (ea_1 (ev_name (i := 1) rfl)) fun vs B1 l1 h => ?_) l fun v B1 H1 s1 _ => ?_
    · obtain ⟨v, rfl, e⟩ := holds1 h
      exact ⟨p, dx, _, g, rows, "guard", by rw [show v = _ from e], l1.ins hp, hfs.le l1, .inl rfl, rfl⟩
    · refine ws_ret (P := Pd.v (.str g)) ?_ s1.lo fun v B' H' st => q1 v B' H' (s1.trans st)
      exact ev_get (ev_fld (ev_name (i := 0) rfl) (s1.up.ins hp) T.c_NetBook T.n_NetBook_own rfl) (s1.up.dk h1) (ev_name (i := 1) rfl) rfl (ru1 hr)
  · subst e eR
    refine ws_expr (P := Pd.v .non) (ev_meth (met_look_word T) hr (ev_name (i := 0) rfl) hp rfl (ea_1 (ev_name (i := 1) rfl)) fun vs B1 l1 h => ?_) l fun v B1 H1 s1 _ => ?_
    · obtain ⟨v, rfl, e⟩ := holds1 h
      exact ⟨p, dx, _, g, rows, "needs", by rw [show v = _ from e], l1.ins hp, hfs.le l1, .inr rfl, rfl⟩
    · refine ws_ret (P := Pd.net K rows) ?_ s1.lo fun v B' H' st => q1 v B' H' (s1.trans st)
      exact EvP.imp (P1 := Pd.v (.ref q)) (ev_get (ev_fld (ev_name (i := 0) rfl) (s1.up.ins hp) T.c_NetBook T.n_NetBook_own rfl) (s1.up.dk h1) (ev_name (i := 1) rfl) rfl (ru1 hr)) fun v H' l e => ⟨q, e, (h2.le s1.up).le l⟩
def A_way (K : PySem.W.Frag) : List V → Hp → Pd → Prop := fun vs _ R => ∃ x, vs = [x] ∧ R = Pd.v (.str "net")
theorem prp_way : Prp P w K mg base 1 (cNetBook K) "way" (pureSp (A_way K)) := by
  obtain ⟨fd, F⟩ := T.d_NetBook_way
  refine ⟨_, _, fd, ["self"], T.c_NetBook, T.p_NetBook_way, fn_pure F (N := ["self"]) ⟨rfl, rfl, rfl, by decide +kernel, rfl, by decide +kernel, by decide +kernel⟩ (fun vs B R ⟨_, e, _⟩ => by rw [e]; rfl) ?_, F.bindsN (fun _ _ _ _ _ _ us hl => match us, hl with | [_], _ => rfl)⟩
  intro cdv A0 outer s H0 E vs B H R D hr l ⟨x, e, eR⟩ q1 q2
  subst e eR
  exact ws_ret (P := Pd.v (.str "net")) ev_str l q1
def A_is_book (K : PySem.W.Frag) : List V → Hp → Pd → Prop := fun vs B R => ∃ p dx fs, vs = [.ref p] ∧ B p = some (.ins (cNetBook K) dx fs) ∧ R = Pd.v (.bl true)
theorem cal_is_book : C8.Cal P w K mg base 1 "is_book" (pureSp (A_is_book K)) [] :=
  cal_pure T.d_is_book T.g_is_book ⟨rfl, rfl, rfl, by decide +kernel, rfl, by decide +kernel, by decide +kernel⟩ (fun _ _ _ _ _ _ us hl => match us, hl with | [_], _ => rfl) (N := ["value"]) (ps := ["value"]) (fun vs B R ⟨_, _, _, e, _⟩ => by rw [e]; rfl)
    fun cdv A0 outer s H0 E vs B H R D hr l ⟨p, dx, fs, e, hp, eR⟩ q1 q2 => by
      subst e eR
      refine ws_ret (P := Pd.v (.bl true)) ?_ l q1
      exact ev_isiT (us := [.ref (cFirstBook K), .ref (cWakingBook K), .ref (cLateBook K), .ref (cNetBook K)]) (ws := [.ref (cFirstBook K), .ref (cWakingBook K), .ref (cLateBook K), .ref (cNetBook K)]) T.f_isinstance rfl (ev_name (i := 0) rfl) (ea_cons (ev_glob rfl T.g_FirstBook rfl) (ea_cons (ev_glob rfl T.g_WakingBook rfl) (ea_cons (ev_glob rfl T.g_LateBook rfl) (ea_1 (ev_glob rfl T.g_NetBook rfl)))))
        (by show 4 ≤ 100000; decide) (.cons (.own _) (.cons (.own _) (.cons (.own _) (.cons (.own _) .nil)))) T.isi_books (fun v B1 l1 (e : v = _) H' l2 => by rw [e]; exact T.ty_NetBook ((l1.trans l2).ins hp))
theorem cal_look_book : C8.Cal P w K mg base 2 "look_at_book" (pureSp fun vs B R => ∃ p dx fs, vs = [.ref p] ∧ B p = some (.ins (cNetBook K) dx fs) ∧ R = Pd.v .non) [] :=
  cal_pure T.d_look_at_book T.g_look_at_book ⟨rfl, rfl, rfl, by decide +kernel, rfl, by decide +kernel, by decide +kernel⟩ (fun _ _ _ _ _ _ us hl => match us, hl with | [_], _ => rfl) (N := ["value"]) (ps := ["value"]) (fun vs B R ⟨_, _, _, e, _⟩ => by rw [e]; rfl)
    fun cdv A0 outer s H0 E vs B H R D hr l ⟨p, dx, fs, e, hp, eR⟩ q1 q2 => by
      subst e eR
      refine ws_ifN (et_not (k := true) (et_v (ev_call (cal_is_book T) hr (ea_1 (ev_name (i := 0) rfl)) fun vs B1 l1 h => ?_))) l fun H1 s1 => ws_nil (q2 _ _ _ (.keep l s1) rfl)
      obtain ⟨v, rfl, e⟩ := holds1 h
      exact ⟨p, dx, fs, by rw [show v = _ from e], l1.ins hp, rfl⟩
end
end K57

set_option Elab.async false
set_option linter.all false
set_option maxRecDepth 100000
set_option maxHeartbeats 4000000
/-! ZI: dict displays; Book.__init__. -/
namespace K57
open PySem PySem.Spec PyProof.Rows L2
theorem StpX.step {S : List Addr} {B H B1 H1 H2 : Hp} (t : StpX S B H B1 H1) (s : Same H1 H2) : StpX S B H B1 H2 := ⟨fun a o n h => s a o (t.same a o n h), t.up, t.lo.trans (le_of s), t.non⟩
/-- a dict with these values -/
def Pd.dv (kvs : List (Key × V)) : Pd := ⟨fun x H => ∃ a, x = .ref a ∧ Rd H a (.dK kvs), fun e ⟨a, h1, h2⟩ => ⟨a, h1, e.dk h2⟩⟩
section
variable {X : Cx} {σ : L2.St} {H : Hp} {pos p1 p2 : Pos} {e1 e2 : Expr} {P1 P2 : Pd} {s1 s2 : Str} {j1 j2 : Nat}
theorem we_disp0 : ∀ H1, Le H H1 → WE X (.Dict [] [] pos) σ H1 (fun v H' => ∃ a, v = .ref a ∧ H1 a = none ∧ H' = upd H1 a (.dK [])) := fun H1 l => .of pe_dnewK fun p hp => ⟨p, rfl, hp, rfl⟩
theorem we_disp1 (h1 : EvP X e1 σ H P1) : ∀ H1, Le H H1 → WE X (.Dict [some (.Constant (.str s1) j1 p1)] [e1] pos) σ H1 (fun v H' => ∃ a v1 B H2, v = .ref a ∧ H1 a = none ∧ B a = none ∧ H2 a = some (.dK []) ∧ Stp H (upd H1 a (.dK [])) B H2 ∧ P1.p v1 B ∧ H' = upd H2 a (.dK [(.inr s1, v1)])) := fun H1 l =>
  .of (pe_disp (pps_cons pe_str (pe_w (e := e1)) pps_nil) rfl rfl (by simp) (by simp)) fun p hp => by
    refine (h1 (upd H1 p (.dK [])) (l.mut (le_none l hp))).mono fun v1 H2 ⟨B, s, q⟩ => ?_
    have hp2 := s.same p _ upd_same
    refine ⟨hp2, [(.inr s1, v1)], rfl, by simp, p, v1, B, H2, rfl, hp, s.non p (le_none l hp) (by rw [upd_same]; simp), hp2, s, q, rfl⟩
theorem we_disp2 (h1 : EvP X e1 σ H P1) (h2 : EvP X e2 σ H P2) (hne : s1 ≠ s2) : ∀ H1, Le H H1 → WE X (.Dict [some (.Constant (.str s1) j1 p1), some (.Constant (.str s2) j2 p2)] [e1, e2] pos) σ H1
    (fun v H' => ∃ a v1 v2 B H2, v = .ref a ∧ H1 a = none ∧ B a = none ∧ H2 a = some (.dK []) ∧ Stp H (upd H1 a (.dK [])) B H2 ∧ P1.p v1 B ∧ P2.p v2 B ∧ H' = upd H2 a (.dK [(.inr s1, v1), (.inr s2, v2)])) := fun H1 l =>
  .of (pe_disp (pps_cons pe_str (pe_w (e := e1)) (pps_cons pe_str (pe_w (e := e2)) pps_nil)) rfl rfl (by simp) (by simp)) fun p hp => by
    refine (h1 (upd H1 p (.dK [])) (l.mut (le_none l hp))).mono fun v1 H2 ⟨B, s, q⟩ => ?_
    refine (h2.le s.up H2 s.lo).mono fun v2 H3 ⟨B3, s3, q3⟩ => ?_
    have hp2 := s3.same p _ (s.same p _ upd_same)
    have t := s.trans s3
    refine ⟨hp2, [(.inr s1, v1), (.inr s2, v2)], rfl, by simp, p, v1, v2, B3, H3, rfl, hp, t.non p (le_none l hp) (by rw [upd_same]; simp), hp2, t, P1.st s3.up q, q3, ?_⟩
    have em : mergeK [] [((.inr s1 : Key), v1), (.inr s2, v2)] = [(.inr s1, v1), (.inr s2, v2)] := by
      show putK (putK ([] : List (Key × V)) (Sum.inr s1) v1) (Sum.inr s2) v2 = _
      have e0 : putK ([] : List (Key × V)) (Sum.inr s1) v1 = [(Sum.inr s1, v1)] := rfl
      rw [e0, putK_new _ (by rw [valV_neg (fun e => hne (Sum.inr.inj e)), valV_nil])]
      rfl
    rw [em]
/-- a new dict, told of -/
theorem disp_stp {H H1 B H2 : Hp} {a : Addr} {kvs : List (Key × V)} (hp : H1 a = none) (hB : B a = none) (s : Stp H (upd H1 a (.dK [])) B H2) (l : Le H H1) : Stp H H1 (upd B a (.dK kvs)) (upd H2 a (.dK kvs)) :=
  ⟨fun x o hx => by
    have na : x ≠ a := ne_of_none hx hp
    rw [upd_ne na]
    exact s.same x o (by rw [upd_ne na]; exact hx), s.up.trans (Le.new hB), s.lo.upd a _, fun x hx hy => by
    have na : x ≠ a := fun e => hy (by rw [e]; exact hp)
    rw [upd_ne na]
    exact s.non x hx (by rw [upd_ne na]; exact hy)⟩
theorem ev_disp2 (h1 : EvP X e1 σ H P1) (h2 : EvP X e2 σ H P2) (hne : s1 ≠ s2) : EvP X (.Dict [some (.Constant (.str s1) j1 p1), some (.Constant (.str s2) j2 p2)] [e1, e2] pos) σ H
    ⟨fun x B => ∃ a v1 v2, x = .ref a ∧ Rd B a (.dK [(.inr s1, v1), (.inr s2, v2)]) ∧ P1.p v1 B ∧ P2.p v2 B, fun e ⟨a, v1, v2, g1, g2, g3, g4⟩ => ⟨a, v1, v2, g1, e.dk g2, P1.st e g3, P2.st e g4⟩⟩ := fun H1 l =>
  (we_disp2 h1 h2 hne H1 l).mono fun v H' ⟨a, v1, v2, B, H2, e1, hp, hB, hd, s, q1, q2, e2⟩ => by
    subst e1 e2
    exact ⟨_, disp_stp hp hB s l, a, v1, v2, rfl, .inl upd_same, P1.st (Le.new hB) q1, P2.st (Le.new hB) q2⟩
theorem ev_disp1 (h1 : EvP X e1 σ H P1) : EvP X (.Dict [some (.Constant (.str s1) j1 p1)] [e1] pos) σ H
    ⟨fun x B => ∃ a v1, x = .ref a ∧ Rd B a (.dK [(.inr s1, v1)]) ∧ P1.p v1 B, fun e ⟨a, v1, g1, g2, g3⟩ => ⟨a, v1, g1, e.dk g2, P1.st e g3⟩⟩ := fun H1 l =>
  (we_disp1 h1 H1 l).mono fun v H' ⟨a, v1, B, H2, e1, hp, hB, hd, s, q1, e2⟩ => by
    subst e1 e2
    exact ⟨_, disp_stp hp hB s l, a, v1, rfl, .inl upd_same, P1.st (Le.new hB) q1⟩
end
section
variable {P : Program} {w : World} {K : PySem.W.Frag} {mg : Str → Option Value} {base : Heap} (T : Tx P K mg)
include T
def A_Book (K : PySem.W.Frag) : List V → Hp → (List (Str × V) → Hp → Prop) → Prop := fun args B Fs => ∃ d g rows, args = [.ref d] ∧ OwnAt K B d g rows ∧ okG g ∧ Fs = fun fs B' => BookFs K B' fs g rows
theorem fn_Book_init : ∃ fd, FnOk P w K mg base CX0 4 (He.ma K (He.ga K "Book") "__init__") fd ["self", "own"] (initSp (cNetBook K) (A_Book K)) ∧ Binds K fd ["self", "own"] [] := by
  obtain ⟨fd, F⟩ := T.d_Book_init
  refine ⟨fd, fn_w F (N := ["self", "own", "wrong"]) ⟨rfl, rfl, rfl, by decide +kernel, rfl, by decide +kernel, by decide +kernel⟩ (fun vs H Q E ⟨p, dx, args, B, Fs, e, _, _, _, ⟨_, _, _, e2, _⟩, _⟩ => by rw [e, e2]; rfl) ?_, F.bindsN (fun _ _ _ _ _ _ us hl => match us, hl with | [_, _], _ => rfl)⟩
  intro cdv A0 outer s H0 vs H Q E hr ⟨p, dx, args, B, Fs, e, hp, hBp, l, ⟨d, g, rows, ea, how, hg, eF⟩, k⟩
  subst ea
  subst e
  subst eF
  have hpn : H p ≠ none := by rw [hp]; simp
  have ⟨q, h1, h2⟩ := how
  refine ws_fld (P := Pd.dl K ((["guard", "needs"] : List Str).map .str)) (el_ofD T.f_list rfl rfl (ev_name (i := 1) rfl) h1 rfl) l (fun s => (ev_name (i := 0) rfl)) hp T.c_NetBook T.n_NetBook_order_of_words (by decide) fun v B1 H1 s1 hv hp1 => ?_
  obtain ⟨lo, xs, ev, _⟩ := hv
  subst ev
  have hB1 : B1 p = none := s1.non p hBp hpn
  have t1 := s1.x.after (S := [p]) (o := .ins (cNetBook K) dx [(("order_of_words" : Str), V.ref lo)]) (List.mem_singleton.mpr rfl) hBp hpn
  have lb := le_put t1.lo upd_same
  have up1 : Le B1 (upd B1 p (.ins (cNetBook K) dx [(("order_of_words" : Str), V.ref lo)])) := Le.new hB1
  refine cb_set 2 (P1 := Pd.v .non) (ev_meth (met_first_wrong T) hr (ev_name (i := 0) rfl) upd_same rfl (ea_1 (ev_name (i := 1) rfl)) fun vs B2 l2 h => ?_) lb fun v B2 H2 s2 ev => ?_
  · obtain ⟨v, rfl, e⟩ := holds1 h
    exact ⟨p, d, dx, _, g, rows, by rw [show v = _ from e], l2.ins upd_same, rfl, how.le ((s1.up.trans up1).trans l2), hg, rfl⟩
  · have ev' : v = .non := ev
    subst ev'
    have t2 := t1.step s2.same
    refine ws_ifN (et_isnt (v := .non) (ev_name (i := 2) rfl) rfl) t2.lo fun H3 s3 => ?_
    have t3 := t2.step s3
    have hp3 := s3 _ _ (s2.same _ _ (upd_same (H := H1) (a := p)))
    refine ws_fld (P := Pd.v (.ref d)) (ev_name (i := 1) rfl) t3.lo (fun s => (ev_name (i := 0) rfl)) hp3 T.c_NetBook T.n_NetBook_own (by show 1 < 100; decide) fun v B4 H4 s4 e4 hp4 => ?_
    have ev4 : v = .ref d := e4
    subst ev4
    have t4 := (t3.step s4.same).after (o := .ins (cNetBook K) dx [(("order_of_words" : Str), V.ref lo), (("own" : Str), V.ref d)]) (List.mem_singleton.mpr rfl) hBp hpn
    exact ws_nil (k _ _ _ t4 upd_same hB1 ⟨lo, d, rfl, how.le s1.up⟩)
end
end K57

set_option Elab.async false
set_option linter.all false
set_option maxRecDepth 100000
set_option maxHeartbeats 4000000
/-! ZJ: NetBook.__init__, which calls super().__init__. -/
namespace K57
open PySem PySem.Spec PyProof.Rows L2
theorem zip_look {β : Type} : ∀ {N : List Str} {us : List β} {i : Nat} {x : Str} {u : β}, N.Nodup → N[i]? = some x → us[i]? = some u → (N.zip us).lookup x = some u
  | [], _, _, _, _, _, h, _ => by simp at h
  | _ :: _, [], _, _, _, _, _, h => by simp at h
  | n :: N, v :: us, 0, x, u, _, h1, h2 => by
    simp at h1 h2
    subst h1 h2
    rw [List.zip_cons_cons, List.lookup_cons, beq_self_eq_true]
  | n :: N, v :: us, i + 1, x, u, nd, h1, h2 => by
    have h1' : N[i]? = some x := by simpa using h1
    have h2' : us[i]? = some u := by simpa using h2
    have hne : x ≠ n := fun e => (List.nodup_cons.mp nd).1 (e ▸ List.mem_of_getElem? h1')
    rw [List.zip_cons_cons, List.lookup_cons, beq_eq_false_iff_ne.mpr hne]
    exact zip_look (List.nodup_cons.mp nd).2 h1' h2'
/-- the context of a def with a closure -/
def cxI (P : Program) (w : World) (K : PySem.W.Frag) (mg : Str → Option Value) (base : Heap) (N : List Str) (fd : FuncData) (f : Addr) (A : Around) (outer : List Env) (s : Shared) (H : Hp) : Cx where
  prog := P
  w := w
  K := K
  mg := mg
  base := base
  A := A.deeper (callEnv fd s.heap.objs.size f)
  N := N
  s_0 := s
  H_0 := H
  env := callEnv fd s.heap.objs.size f
  outer := outer
  stack := callEnv fd s.heap.objs.size f :: outer
  ex := []
  calm := true
  fn := fun _ => false
  pn := []
  xe := fun _ _ => False
theorem inv_I {P : Program} {w : World} {K : PySem.W.Frag} {mg : Str → Option Value} {base : Heap} {N : List Str} {fd : FuncData} {f cc : Addr} {A : Around} {outer : List Env} {s : Shared} {H : Hp} {us : List Value} {vs : List V} {h₀ : Heap} {t : Nat} {val : Option Value}
    (hk : fd.scope.kind = .function) (hg : fd.globals = mainGlobals) (hb : fd.builtins = builtinsNs) (hc : fd.closure = [(("__class__" : Str), cc)]) (hfree : ∀ y, (fd.scope.names.lookup y = some .cell ∨ fd.scope.names.lookup y = some .free) → y = "__class__")
    (hcc : ∃ o, K.lookup cc = some o ∧ o.data = .cell val) (hd : A.handled = none) (e0 : Env0 P w K mg base A outer s H) (hN : N.length = us.length) (nd : N.Nodup) (hloc : ∀ x ∈ N, fd.scope.names.lookup x = some .local) (r : Vals vs us)
    (hns : h₀.Ns s.heap.objs.size (fun x => (N.zip us).reverse.lookup x)) (hkp : ∀ b o, s.heap.get? b = some o → h₀.get? b = some o) : Inv (cxI P w K mg base N fd f A outer s H) [] (vs.map some) H { s with heap := h₀, toks := t } := by
  obtain ⟨oc, hoc, hod⟩ := hcc
  have hbc : base.get? cc = some oc := e0.mod.kin _ _ hoc
  have cl : ∀ x c, (callEnv fd s.heap.objs.size f).cells.lookup x = some c → x = "__class__" ∧ c = cc := fun x c h => by
    have h' : fd.closure.lookup x = some c := h
    rw [hc] at h'
    by_cases e : x = "__class__"
    · subst e
      rw [List.lookup_cons, beq_self_eq_true] at h'
      cases h'
      exact ⟨rfl, rfl⟩
    · rw [List.lookup_cons, beq_eq_false_iff_ne.mpr e] at h'
      simp at h'
  refine ⟨⟨e0.mod, hk, hg, hb, Nat.le_refl _, fun x y c h1 h2 => (cl x c h1).1.trans (cl y c h2).1.symm, fun x hx => ?_, fun x c h _ => (nomatch (show false = true from h)), fun _ => hd, Around.frames_deeper e0.frames, .inr ⟨rfl, rfl⟩, fun b z => (nomatch (show b ∈ ([] : List Addr) from z)), e0.bs, e0.bsz, fun b _ _ z => (nomatch (show b ∈ ([] : List Addr) from z)), fun b z => (nomatch (show b ∈ ([] : List Addr) from z)), e0.funs, e0.frf⟩,
    rfl, e0.bare, Un.kept hkp, ⟨_, hns, fun i x v h1 h2 h3 => ?_⟩, fun x c h => ?_, e0.hok.fresh (Nat.le_refl _), fun x c h => ?_, fun p hp => (nomatch (show p ∈ ([] : List (Addr × Obj)) from hp)), e0.hok.kept hkp, ?_⟩
  · have := hfree x hx
    subst this
    exact ⟨cc, by show fd.closure.lookup _ = _; rw [hc]; rfl⟩
  · have ha : vs[i]? = some v := by
      rw [List.getElem?_map] at h2
      cases e : vs[i]? with
      | none => rw [e] at h2; cases h2
      | some a => rw [e] at h2; cases h2; rfl
    obtain ⟨u, hu, rv⟩ := r.get ha
    have h1' : N[i]? = some x := h1
    have hl : fd.scope.names.lookup x = some .local := hloc x (List.mem_of_getElem? h1')
    refine ⟨u, rv, .inl ⟨hl, ?_⟩⟩
    show (N.zip us).reverse.lookup x = some u
    rw [lookup_reverse_of_nodup _ (by rw [List.map_fst_zip (by omega)]; exact nd)]
    exact zip_look nd h1' hu
  · obtain ⟨_, e⟩ := cl x c h
    rw [e]
    exact ⟨val, oc, hkp _ _ (e0.bs _ _ hbc).1, hod⟩
  · obtain ⟨_, e⟩ := cl x c h
    rw [e]
    exact (e0.bs _ _ hbc).2
  · show (vs.map some).length = N.length
    rw [List.length_map, r.length, hN]
/-- NetBook.__init__ as it stands behind the top -/
structure InitFd (P : Program) (K : PySem.W.Frag) (fd : FuncData) (cc cda : Addr) : Prop where
  lk : ∃ oc od osl, K.lookup (He.ma K (cNetBook K) "__init__") = some ⟨oc, od, .func fd, osl⟩
  params : fd.params = defArgs s_NetBook_init
  body : fd.body = .stmts (defBody s_NetBook_init)
  scope : fd.scope = defScope s_NetBook_init
  glob : fd.globals = mainGlobals
  blt : fd.builtins = builtinsNs
  clo : fd.closure = [(("__class__" : Str), cc)]
  code : fd.code = .ref cda
  cod : PySem.W.codeIn K fd.code fd.qualname = true
  cell : ∃ o, K.lookup cc = some o ∧ o.data = .cell (some (.ref (cNetBook K)))
  file : ∃ o vs fl tf, K.lookup cda = some o ∧ o.data = .fields vs ∧ (vs : Array Value)[2]? = some (.str fl tf) ∧ ((P.main.file : Str) == fl) = true
  dfl : DflV K fd.defaults []
  kwd : KwdV K fd.kwdefaults [(("guard" : Str), V.str "own")]
section
variable {P : Program} {w : World} {K : PySem.W.Frag} {mg : Str → Option Value} {base : Heap} (T : Tx P K mg)
include T
theorem init_fd : ∃ fd cc cda, InitFd P K fd cc cda := by
  have e := init_fn T.says
  have c := init_ok T.says
  have s := ex_c16 T.says
  unfold DefZ.ok at c
  obtain ⟨c0, c1⟩ := He.ba c
  obtain ⟨s1, s2⟩ := He.ba (show superB K = true from s)
  unfold fnZ at e
  have ea : dInit.at_ K = He.ma K (cNetBook K) "__init__" := rfl
  rw [ea] at e c1
  cases q : K.lookup (He.ma K (cNetBook K) "__init__") with
  | none =>
    rw [q] at c1
    cases c1
  | some o =>
    obtain ⟨oc, od, dt, osl⟩ := o
    rw [q] at c1 e s1
    cases dt with
    | func fd =>
      have e2 : (some (fd.name, fd.qualname, fd.params, fd.body, fd.scope, fd.globals, fd.closure.map (·.1), fd.builtins) : FnZ) = dInit.val := e
      unfold DefZ.val at e2
      simp only [Option.some.injEq, Prod.mk.injEq] at e2
      obtain ⟨h1, h2, h3, h4, h5, h6, h7, h8⟩ := e2
      have c3 : (PySem.W.codeIn K fd.code dInit.qual && (He.dflB K fd.defaults (dInit.dfl.map (He.Dv.v K)) && He.kwdB K fd.kwdefaults (dInit.kwd.map fun q => (q.1, q.2.v K)))) = true := c1
      obtain ⟨k1, k2⟩ := He.ba c3
      obtain ⟨k3, k4⟩ := He.ba k2
      obtain ⟨cc, hclo⟩ : ∃ cc, fd.closure = [(("__class__" : Str), cc)] := by
        have h7' : fd.closure.map (·.1) = [("__class__" : Str)] := h7
        cases hq : fd.closure with
        | nil => rw [hq] at h7'; cases h7'
        | cons a r =>
          rw [hq] at h7'
          cases r with
          | nil =>
            obtain ⟨a1, a2⟩ := a
            simp at h7'
            subst h7'
            exact ⟨a2, rfl⟩
          | cons _ _ => simp at h7'
      have s1' : (match fd.closure, fd.code with
        | [(_, cc)], .ref cda => (match K.lookup cc, K.lookup cda with
          | some ⟨_, _, .cell (some (.ref D)), _⟩, some ⟨_, _, .fields vs, _⟩ => decide (D = He.ga K "NetBook") && (match (vs : Array Value).toList[2]? with
            | some (Value.str file _) => (PySem.Challenge.pw_firstmade_k57_whole_nets_made_in_order.main.file : Str) == file
            | _ => false)
          | _, _ => false)
        | _, _ => false) = true := s1
      rw [hclo] at s1'
      cases hcode : fd.code with
      | ref cda =>
        rw [hcode] at s1'
        dsimp only at s1'
        split at s1'
        · rename_i D _ _ _ vs _ g1 g2
          obtain ⟨u1, u2⟩ := He.ba s1'
          have hD : D = cNetBook K := of_decide_eq_true u1
          subst hD
          split at u2
          · rename_i fl tf g3
            refine ⟨fd, cc, cda, ⟨oc, od, osl, q⟩, h3, h4, h5, h6, h8, hclo, hcode, ?_, ⟨_, g1, rfl⟩, ⟨_, vs, fl, tf, g2, rfl, by rw [← g3, Array.getElem?_toList], ?_⟩, He.dflB_ok k3, He.kwdB_ok k4⟩
            · rw [h2]
              exact k1
            · rw [T.prg]
              exact u2
          · cases u2
        · cases s1'
      | _ => rw [hcode] at s1'; cases s1'
    | _ => cases c1
def A_NetBook (K : PySem.W.Frag) : List V → Hp → (List (Str × V) → Hp → Prop) → Prop := fun args B Fs => ∃ q g rows, args = [.ref q, .str g] ∧ NetAt K B q rows ∧ okG g ∧ Fs = fun fs B' => BookFs K B' fs g rows
theorem fn_NetBook_init {fd : FuncData} {cc cda : Addr} (I0 : InitFd P K fd cc cda) : FnOk P w K mg base CX0 6 (He.ma K (cNetBook K) "__init__") fd ["self", "needs", "guard"] (initSp (cNetBook K) (A_NetBook K)) := by
  obtain ⟨n1, n2, n3, n4, n5, n6, n7, n8, n9, n10, n11, n12, n13, n14, n15⟩ := fd
  obtain ⟨⟨oc, od, osl, lk⟩, i1, i2, i3, i4, i5, i6, i7, i8, ⟨ob, lb, db⟩, ⟨oa, vsa, fl, tf, la, da, va, ha⟩, i11, i12⟩ := I0
  have i1' : n3 = _ := i1
  have i2' : n4 = _ := i2
  have i3' : n5 = _ := i3
  have i4' : n6 = _ := i4
  have i5' : n15 = _ := i5
  have i6' : n7 = _ := i6
  have i7' : n13 = _ := i7
  subst i1' i2' i3' i4' i5' i6' i7'
  clear i1 i2 i3 i4 i5 i6 i7
  refine ⟨fun vs H Q E ⟨p, dx, args, B, Fs, e, _, _, _, ⟨_, _, _, e2, _⟩, _⟩ => by rw [e, e2]; rfl, ?_⟩
  intro A outer s H args us vs Q E hr e0 hb r ⟨p, dx, ar, B, Fs, e, hp, hBp, l, ⟨q, g, rows, ea, hnet, hg, eF⟩, k⟩
  subst ea
  subst e
  subst eF
  have KX : K.In s.heap := e0.mod.kin.keeps fun b o e => (e0.bs b o e).1
  have lim : s.heap.NoLimit := e0.mod.nolimit.keeps fun b o e => (e0.bs b o e).1
  have hus : us.length = 3 := by rw [← r.length]; rfl
  refine PySem.ks_codeAny_call_defAt hr.depth (KX _ _ lk) rfl lim (PySem.W.codeRec_of KX i8) rfl hb (by show ∀ x ∈ (defScope s_NetBook_init).names, x.2 ≠ NameKind.cell; decide +kernel) ?_ ?_
  · intro x hx
    have hx1 : x.1 ∈ (["self", "needs", "guard"] : List Str) := (List.of_mem_zip hx).1
    revert hx1
    generalize x.1 = y
    revert y
    show ∀ y ∈ (["self", "needs", "guard"] : List Str), (defScope s_NetBook_init).names.lookup y = some NameKind.local
    decide +kernel
  intro h₀ hns hkp
  have hr5 := hr.deeper (callEnv ⟨n1, n2, defArgs s_NetBook_init, .stmts (defBody s_NetBook_init), defScope s_NetBook_init, mainGlobals, [(("__class__" : Str), cc)], n8, n9, n10, n11, n12, .ref cda, n14, builtinsNs⟩ s.heap.objs.size (He.ma K (cNetBook K) "__init__"))
  have I := inv_I (t := s.toks + ((["self", "needs", "guard"] : List Str).zip us).length) (N := ["self", "needs", "guard"]) (fd := ⟨n1, n2, defArgs s_NetBook_init, .stmts (defBody s_NetBook_init), defScope s_NetBook_init, mainGlobals, [(("__class__" : Str), cc)], n8, n9, n10, n11, n12, .ref cda, n14, builtinsNs⟩) (f := He.ma K (cNetBook K) "__init__") rfl rfl rfl rfl (fun y hy => by
      have h : ∀ p ∈ (defScope s_NetBook_init).names, (p.2 = .cell ∨ p.2 = .free) → p.1 = ("__class__" : Str) := by decide +kernel
      rcases hy with hy | hy
      · exact h _ (PySem.mem_of_lookup hy) (.inl rfl)
      · exact h _ (PySem.mem_of_lookup hy) (.inr rfl)) ⟨ob, lb, db⟩ hr.hd e0 (by rw [hus]; rfl) (by decide +kernel) (by show ∀ y ∈ (["self", "needs", "guard"] : List Str), (defScope s_NetBook_init).names.lookup y = some NameKind.local; decide +kernel) r hns hkp
  have KX1 : K.In h₀ := KX.keeps hkp
  refine PySem.ks_wpAt_execs_cons (PySem.ks_wpAt_Expr_any (PySem.ks_wpAt_MethodCall ?_))
  refine PySem.ks_wpAt_super_base rfl rfl (by decide) rfl (KX1 _ _ lk) rfl rfl rfl (KX1 _ _ la) da va ha (by rw [T.prg]; decide +kernel) ?_
  obtain ⟨mb, hb1, hb2⟩ := I.mod.blt
  refine PySem.W.ks_loadName_global rfl rfl (Calls.loadGlobal_builtin (I.mod.glob.keeps I.bk) T.f_super (hb1.keeps I.bk) ((hb2 _ (by decide)).trans rfl) ⟨rfl, ?_⟩)
  refine wpAny_loadName_free rfl rfl rfl ⟨ob, KX1 _ _ lb, db⟩ ?_
  have hself : ((["self", "needs", "guard"] : List Str).zip us).reverse.lookup ("self" : Str) = some (Value.ref p) := by
    cases r with
    | cons r0 r1 =>
      cases r1 with
      | cons r2 r3 =>
        cases r3 with
        | cons r4 r5 =>
          cases r5
          cases r0
          rfl
  refine wpAny_loadName_local rfl rfl hns hself ?_
  obtain ⟨_, s2⟩ := He.ba (show superB K = true from ex_c16 T.says)
  obtain ⟨c1, c2⟩ := He.ba s2
  obtain ⟨c3, c4⟩ := He.ba c2
  obtain ⟨c5, c6⟩ := He.ba c4
  obtain ⟨c7, c8⟩ := He.ba c6
  obtain ⟨cdD, hcd⟩ := Option.isSome_iff_exists.mp c1
  obtain ⟨oD, hD1, hD2⟩ : ∃ oD, h₀.get? (cNetBook K) = some oD ∧ oD.data = .cls cdD := by
    unfold PySem.W.clsIn at hcd
    split at hcd
    · rename_i c d cd' sl ho
      cases hcd
      exact ⟨_, KX1 _ _ ho, rfl⟩
    · cases hcd
  refine PySem.ks_wpAny_isType_cls hD1 hD2 ⟨rfl, ?_⟩
  obtain ⟨mA, O, _⟩ := ins_get I.hok hp
  obtain ⟨odx, J, _⟩ := O.look
  refine PySem.ks_wpAny_call_super hD1 hD2 J.at_ J.cls (fun c e => ?_) (PySem.W.looks_mroIn KX1 (of_decide_eq_true c3)) (fun h' e1 k1 => ?_)
  · have := J.no
    unfold PySem.W.notCls at this
    rw [e] at this
    exact Bool.noConfusion this
  have KX2 : K.In h' := KX1.keeps k1
  obtain ⟨fdB, FB, bB⟩ := fn_Book_init (P := P) (w := w) (base := base) T
  have tyB := of_decide_eq_true c8
  obtain ⟨of, hof, hofc⟩ : ∃ of, h'.get? (He.ma K (He.ga K "Book") "__init__") = some of ∧ of.cls = .type "function" := by
    have ht' : (K.lookup (He.ma K (He.ga K "Book") "__init__")).map (·.cls) = some (.type "function") := tyB
    cases z : K.lookup (He.ma K (He.ga K "Book") "__init__") with
    | none => rw [z] at ht'; cases ht'
    | some of => rw [z] at ht'; exact ⟨of, KX2 _ _ z, Option.some.inj ht'⟩
  have hsup := He.eqO_ok c7
  unfold PySem.W.ks_superIn at hsup
  rw [hcd, Option.bind_some] at hsup
  have I1 := I.kept (t' := s.toks + ((["self", "needs", "guard"] : List Str).zip us).length) k1
  obtain ⟨mA1, O1, _⟩ := ins_get I1.hok hp
  obtain ⟨odx1, J1, _⟩ := O1.look
  refine PySem.ks_wpAny_getMethod_super e1 (PySem.W.looks_opaque KX2 (He.eqO_ok c5)) (l₀ := cdD.mro) ?_ rfl KX2 hsup hof hofc (PySem.W.ks_ne KX2 J1 hcd) (by decide) ?_
  · exact fun A Q E s k q => wpAny_bind ((PySem.W.looks_clsIn KX2 hcd) A _ E s k (wpAny_pure q))
  have I2 := ClX.met_new (g := He.ma K (He.ga K "Book") "__init__") (C := p) I1
  have hpn : H p ≠ none := by rw [hp]; simp
  have fiB : PySem.W.fnIn K (He.ma K (He.ga K "Book") "__init__") = true := by
    obtain ⟨fd2, F2⟩ := T.d_Book_init
    obtain ⟨_, _, _, _, _, _, _, _, _, _, _, lk2, _⟩ := F2.ex
    unfold PySem.W.fnIn
    rw [lk2]
  obtain ⟨t, pt, ka⟩ := ea_1 (X := (cxI P w K mg base (["self", "needs", "guard"] : List Str) ⟨n1, n2, defArgs s_NetBook_init, .stmts (defBody s_NetBook_init), defScope s_NetBook_init, mainGlobals, [(("__class__" : Str), cc)], n8, n9, n10, n11, n12, .ref cda, n14, builtinsNs⟩ (He.ma K (cNetBook K) "__init__") A outer s H)) (σ := [V.ref p, .ref q, .str g].map some) (H := B) (ev_disp2 (s1 := "guard") (s2 := "needs") (ev_name (i := 2) rfl) (ev_name (i := 1) rfl) (by decide))
  refine wpAny_mono (Q := EP (cxI P w K mg base (["self", "needs", "guard"] : List Str) ⟨n1, n2, defArgs s_NetBook_init, .stmts (defBody s_NetBook_init), defScope s_NetBook_init, mainGlobals, [(("__class__" : Str), cc)], n8, n9, n10, n11, n12, .ref cda, n14, builtinsNs⟩ (He.ma K (cNetBook K) "__init__") A outer s H) [] ([V.ref p, .ref q, .str g].map some) (fun v H' => v = .non ∧ Q .non H')) (E := fun _ _ => False) (ClX.callwith_cm I2 (ClX.base_none I1 (Nat.le_refl _)) fiB ?_ rfl rfl) (fun u s' hz => ?_) (fun _ _ z => z.elim)
  · refine thn (pt.run _ _ _ _ _ _ I2 (ka H l (fun vs H3 => ∃ B3, Stp B H B3 H3 ∧ Holds [_] vs B3) fun vs B3 H3 st hs => ⟨B3, st, hs⟩)) fun us3 s3 ⟨vs3, H3, I3, r3, B3, st, hs⟩ => ⟨⟨ClX.pin_at I3, I3.kIn⟩, ?_⟩
    obtain ⟨v1, rfl, a, w1, w2, ea, hd, e2, e3⟩ := holds1 hs
    refine ClX.run_cm (E := C8.E0) (FnOk.raw FB bB .nil) (hr5.mono (by decide)) C8.pass0 I3 r3 ?_
    have hB3 : B3 p = none := st.non p hBp hpn
    refine ⟨p, dx, [v1], B3, _, rfl, st.same _ _ hp, hB3, st.lo, ⟨a, g, rows, by rw [ea], ⟨q, ?_, hnet.le st.up⟩, hg, rfl⟩, fun fs B' H' t' h1 h2 h3 => ⟨rfl, k fs B' H' (st.x.trans t' fun x hx => ?_) h1 h2 h3⟩⟩
    · rw [show w1 = _ from e2, show w2 = _ from e3] at hd
      exact hd
    · rw [List.mem_singleton.mp hx, st.same _ _ hp]
      simp
  · obtain ⟨v, H', J, rv, ev, hq⟩ := hz
    exact wpAt_of_wpAny (wpAny_pure ⟨.non, H', J.os, J.bare, J.base, J.hok, rfl, hq⟩)
end
end K57

set_option Elab.async false
set_option linter.all false
set_option maxRecDepth 100000
set_option maxHeartbeats 4000000
/-! ZX: the binding of NetBook's parameters; makes of it. -/
namespace K57
open PySem PySem.Spec PyProof.Rows L2
section
variable {P : Program} {w : World} {K : PySem.W.Frag} {mg : Str → Option Value} {base : Heap} (T : Tx P K mg)
include T
theorem init_binds {fd : FuncData} {cc cda : Addr} (I0 : InitFd P K fd cc cda) : ∃ ds, Vals [V.str "own"] ds ∧ Binds K fd ["self", "needs", "guard"] ds := by
  obtain ⟨n1, n2, n3, n4, n5, n6, n7, n8, n9, n10, n11, n12, n13, n14, n15⟩ := fd
  obtain ⟨lk, i1, i2, i3, i4, i5, i6, i7, i8, i9, i10, i11, i12⟩ := I0
  have i1' : n3 = _ := i1
  have i11' : DflV K n8 [] := i11
  have i12' : KwdV K n9 [(("guard" : Str), V.str "own")] := i12
  subst i1'
  rcases i11' with ⟨_, e8⟩ | ⟨e, _⟩
  · subst e8
    rcases i12' with e | ⟨D, e9, hq⟩
    · cases e
    · subst e9
      obtain ⟨ks, hl, rk, hks⟩ := kwd_vals hq
      refine ⟨ks, rk, fun s us X hlen => ?_⟩
      have l2 : us.length = 2 := by
        rw [List.length_append, hl] at hlen
        simpa using hlen
      match ks, hl, hks with
      | [k0], _, hks =>
        match us, l2 with
        | [u0, u1], _ => exact BindsTo.of_looks fun M => KwChain.looks X hks ⟨_, _, _, _, _, _, rfl, rfl, rfl⟩
  · exact absurd rfl e
/-- both keywords given -/
theorem init_bindsK {fd : FuncData} {cc cda : Addr} (I0 : InitFd P K fd cc cda) (s : Shared) (u0 u1 u2 : Value) : BindsTo s fd ⟨[u0], [(("guard" : Str), u1), (("needs" : Str), u2)]⟩ ((["self", "needs", "guard"] : List Str).zip [u0, u2, u1]) := by
  obtain ⟨n1, n2, n3, n4, n5, n6, n7, n8, n9, n10, n11, n12, n13, n14, n15⟩ := fd
  obtain ⟨lk, i1, i2, i3, i4, i5, i6, i7, i8, i9, i10, i11, i12⟩ := I0
  have i1' : n3 = _ := i1
  have i11' : DflV K n8 [] := i11
  subst i1'
  rcases i11' with ⟨_, e8⟩ | ⟨e, _⟩
  · subst e8
    exact .of_eq rfl
  · exact absurd rfl e
theorem mak_NetBook : C8.Mak P w K mg base 6 "NetBook" (cNetBook K) (initSp (cNetBook K) (A_NetBook K)) [V.str "own"] := by
  obtain ⟨fd, cc, cda, I0⟩ := init_fd T
  obtain ⟨ds, rd, hb⟩ := init_binds T I0
  exact ⟨_, fd, _, ds, T.k_NetBook, fn_NetBook_init T I0, T.g_NetBook, hb, rd⟩
end
section
variable {X : Cx} {e a b c o : Expr} {σ : L2.St} {H H' : Hp} {P P1 P2 : Pd} {v w x y : V} {pos p2 : Pos}
theorem we_makeD {C : Addr} {A : List V → Hp → (List (Str × V) → Hp → Prop) → Prop} {k j : Nat} {n : Str} {dvs : List V} {Fs : List (Str × V) → Hp → Prop} {Ps : List Pd} {p : Pos} {es : List Expr} (c : C8.Mak X.prog X.w X.K X.mg X.base k n C (initSp C A) dvs) (hr : Room j X.A) (ha : EvA X (e :: es) σ H Ps)
    (h : ∀ vs B, Le H B → Holds Ps vs B → A (vs ++ dvs) B Fs) (hk : k + 1 ≤ j := by decide) (hg : Gl X n := by rfl) (hdb : (n == ("__debug__" : Str)) = false := by decide)
    (he : starEach (e :: es) X.env = (false, eval e X.env) :: starEach es X.env := by rfl) (hpl : (backTo pos (starEach es X.env)).any (·.1) = false := by rfl) : ∀ H1, Le H H1 → WE X (.Call (.Name n p) (e :: es) [] pos) σ H1 (MadeP C H H1 Fs) := fun H1 l => by
  obtain ⟨t, pt, ka⟩ := ha
  refine .of (C8.pe_mk c hr hk hg pt hdb he hpl) ?_
  refine ka H1 l _ fun vs B H2 s hs => ?_
  exact made_of s (h vs B s.up hs) fun _ _ z => z
end
end K57

set_option Elab.async false
set_option linter.all false
set_option maxRecDepth 100000
set_option maxHeartbeats 4000000
/-! ZG: one dict merged into another (displays with **, calls with **). -/
namespace K57
open PySem PySem.Spec PyProof.Rows L2
section
variable {prog : Program} {w : World} {A : Around} {E : Value → Shared → Prop} {s : Shared} {K : Type} [DecidableEq K] {knd : KeyKind prog w K}
theorem dictPut_ok {d : Addr} {kvs : List (K × Value)} {k : K} {key v : Value} {Q : Unit → Shared → Prop} (hkey : knd.is k key = true) (hm : s.heap.DictOf knd d kvs)
    (hQ : ∀ h', h'.DictOf knd d (stored kvs k v) → Heap.SameBut d s.heap h' → Q () { s with heap := h' }) (hsz : kvs.length ≤ sizeLine) : wpAny (model prog w) A (dictPut d (knd.hash k) key v) Q E s := by
  obtain ⟨o, es, ep, ho, hc, hd, hk, hp, hn⟩ := hm
  have hes : es.size ≤ sizeLine := by
    have e1 := hp.length
    have e2 : es.toList.length = es.size := by simp
    omega
  unfold dictPut
  refine wpAny_bind (wpAny_dictFind_of hkey ho hd hk ?_)
  have hidx : (es.findIdx? fun e => knd.is k e.key) = kvs.findIdx? fun kv => decide (kv.1 = k) := by
    rw [← hp.findIdx k]
    obtain ⟨l⟩ := es
    simp
  cases hi : es.findIdx? fun e => knd.is k e.key with
  | some i =>
    refine wpAny_updateDict ho hd (hQ _ ⟨_, _, ep, Heap.get?_update_self _ ho (Obj.isFreed_of_dict (Obj.data_mapDict hd _)), hc.mapDict _, Obj.data_mapDict hd _, hk.modify _ _, ?_, ?_⟩ (Heap.SameBut.update ..))
    · rw [stored, if_pos (any_of_findIdx_some (hidx ▸ hi))]
      have hl : (es.toList.findIdx? fun e => knd.is k e.key) = some i := by
        rw [← hi]
        obtain ⟨l⟩ := es
        simp
      have := hp.modify hn hl v
      obtain ⟨l⟩ := es
      simpa using this
    · rw [stored, if_pos (any_of_findIdx_some (hidx ▸ hi)), keys_map_store]
      exact hn
  | none =>
    have hnot : k ∉ kvs.map (·.1) := not_mem_of_findIdx_none (hidx ▸ hi)
    have hany : ¬ (kvs.any fun kv => decide (kv.1 = k)) = true := by
      rw [List.any_eq_true]
      rintro ⟨kv, hkv, he⟩
      exact hnot (List.mem_map.mpr ⟨kv, hkv, of_decide_eq_true he⟩)
    refine wpAny_updateDictKeys (hz := hes) ho hd (hQ _ ⟨_, _, ep + 1, Heap.get?_update_self _ ho (Obj.isFreed_of_dict (Obj.data_mapDictKeys hd _)), hc.mapDictKeys _, Obj.data_mapDictKeys hd _, hk.push hkey _, ?_, ?_⟩ (Heap.SameBut.update ..))
    · rw [stored, if_neg hany]
      have := hp.append hkey (knd.hash k) v
      obtain ⟨l⟩ := es
      simpa using this
    · rw [stored, if_neg hany, List.map_append, List.nodup_append]
      refine ⟨hn, by simp, ?_⟩
      intro a ha b hb
      simp only [List.map_cons, List.map_nil, List.mem_singleton] at hb
      subst hb
      exact fun e => hnot (e ▸ ha)
end
section
variable {prog : Program} {w : World} {A : Around} {E : Value → Shared → Prop} {s : Shared}
theorem key_noref {k : Key} {v : Value} (h : (mixKind prog w).is k v = true) : ∀ a, v ≠ .ref a := fun a e => by
  subst e
  have h' : keyIs k (Value.ref a) = true := h
  cases k <;> cases h'
theorem merge_ok {d a : Addr} {kvs more : List (Key × Value)} {unique : Bool} {Q : Unit → Shared → Prop} (hda : d ≠ a) (haS : (a == sysModules) = false) (hd : s.heap.DictOf (mixKind prog w) d kvs) (ha : s.heap.DictOf (mixKind prog w) a more)
    (hu : unique = true → kvs = []) (hQ : ∀ h', h'.DictOf (mixKind prog w) d (merged kvs more) → Heap.SameBut d s.heap h' → Q () { s with heap := h' }) (hsz : kvs.length + more.length ≤ sizeLine) : wpAny (model prog w) A (mergeMapping d (.ref a) unique) Q E s := by
  obtain ⟨od, esd, epd, hod, hcd, hdd, hkd, hpd, hnd⟩ := id hd
  obtain ⟨oo, eso, epo, hoo, hco, hdo', hko, hpo, hno⟩ := id ha
  have hlen : more.length = eso.size := by rw [← hpo.length]; simp
  have hT : s.TypeIs (.ref a) "dict" := ha.mapOf.typeIs
  unfold mergeMapping
  refine wpAny_bind (wpAny_isInstance (b := true) hT ?_ ?_)
  · rfl
  dsimp only
  rw [if_pos rfl]
  refine wpAny_bind (wpAny_specialOf hT PySem.F.slot_dict_iter.lookup (wpAny_bind (wpAny_pure ?_)))
  have hb : (some (Value.builtin "dict.__iter__") == some (Value.builtin "dict.__iter__")) = true := by decide
  rw [hb]
  dsimp only
  rw [if_neg (by rw [haS]; exact Bool.false_ne_true)]
  have loop : wpAny (model prog w) A (do
      let l ← dictEntries a
      let epoch ← dictEpoch a
      forIn (List.range l.size) PUnit.unit fun i (_ : PUnit) => (do
          let l' ← dictEntries a
          match l'[i]? with
            | some e => do
              holding [e.key, e.val]
                  (if unique = true then do
                    let __do_lift ← dictFind d e.key e.hash
                    if __do_lift.isSome = true then do
                        rule "dict.merge.duplicate-key"
                        let __do_lift ← newExc (Value.type "KeyError") [e.key]
                        let _ ← (raiseNew __do_lift : Sem Unit)
                        dictPut d e.hash e.key e.val
                      else dictPut d e.hash e.key e.val
                  else dictPut d e.hash e.key e.val)
              let ep' ← dictEpoch a
              if (ep' != epoch) = true then do
                  (unsupported "dict.changed-during-merge" : Sem PUnit)
                  pure (ForInStep.yield PUnit.unit)
                else pure (ForInStep.yield PUnit.unit)
            | _ => do
              (unsupported "dict.changed-during-merge" : Sem PUnit)
              pure (ForInStep.yield PUnit.unit) : Sem (ForInStep PUnit))
      pure ()) Q E s := by
    refine wpAny_bind (wpAny_dictEntries hoo hdo' ?_)
    refine wpAny_bind (wpAny_dictEpoch hoo hdo' ?_)
    refine wpAny_bind ?_
    rw [List.range_eq_range']
    refine wpAny_forIn_list _
      (fun rest _ s' => ∃ h' i, s' = { s with heap := h' } ∧ rest = List.range' i (eso.size - i) ∧ i ≤ eso.size ∧ h'.DictOf (mixKind prog w) d (merged kvs (more.take i)) ∧ h'.get? a = some oo ∧ Heap.SameBut d s.heap h')
      _ ?_ ?_ _ _ ⟨s.heap, 0, rfl, by simp, Nat.zero_le _, by simpa [merged] using hd, hoo, Heap.SameBut.refl _ _⟩
    · rintro x rest b s' ⟨h', i, rfl, hr, hi, hd', hoo', hs'⟩
      have hlt : i < eso.size := by
        rcases Nat.lt_or_ge i eso.size with h | h
        · exact h
        · rw [Nat.sub_eq_zero_of_le h] at hr
          simp at hr
      obtain ⟨rfl, hrest⟩ : x = i ∧ rest = List.range' (i + 1) (eso.size - (i + 1)) := by
        have e : eso.size - i = (eso.size - (i + 1)) + 1 := by omega
        rw [e, List.range'_succ] at hr
        injection hr with h1 h2
        exact ⟨h1, h2⟩
      refine wpAny_bind (wpAny_dictEntries hoo' hdo' ?_)
      rw [Array.getElem?_eq_getElem hlt]
      obtain ⟨kv, hkv⟩ : ∃ kv, more[x]? = some kv := ⟨more[x]'(by rw [hlen]; exact hlt), List.getElem?_eq_getElem _⟩
      obtain ⟨k, v⟩ := kv
      obtain ⟨hkey, hval⟩ := hpo.get? (e := eso[x]) (by simp [hlt]) hkv
      obtain ⟨k', hkey', hhash⟩ := hko eso[x] (Array.getElem_mem hlt)
      obtain rfl : k' = k := (mixKind prog w).inj _ _ _ hkey' hkey
      have hmx : (merged kvs (more.take x)).length ≤ sizeLine := by
        have e1 := merged_length_le kvs (more.take x)
        have e2 : (more.take x).length ≤ more.length := by rw [List.length_take]; omega
        omega
      have put : wpAny (model prog w) A (dictPut d eso[x].hash eso[x].key eso[x].val) (fun _ s₂ => wpAny (model prog w) A (do
              let ep' ← dictEpoch a
              if (ep' != epo) = true then do
                  (unsupported "dict.changed-during-merge" : Sem PUnit)
                  pure (ForInStep.yield PUnit.unit)
                else pure (ForInStep.yield PUnit.unit) : Sem (ForInStep PUnit)) (fun r s' => match r with
            | .yield b' => ∃ h' i, s' = { s with heap := h' } ∧ rest = List.range' i (eso.size - i) ∧ i ≤ eso.size ∧ h'.DictOf (mixKind prog w) d (merged kvs (more.take i)) ∧ h'.get? a = some oo ∧ Heap.SameBut d s.heap h'
            | .done b' => wpAny (model prog w) A (pure () : Sem Unit) Q E s') E s₂) E { s with heap := h' } := by
        rw [hhash, hval]
        refine dictPut_ok hkey hd' (fun h'' hd'' hs'' => ?_) hmx
        have hoo'' : h''.get? a = some oo := (hs''.2 a (Ne.symm hda)).trans hoo'
        refine wpAny_bind (wpAny_dictEpoch hoo'' hdo' ?_)
        rw [if_neg (by simp)]
        exact wpAny_pure ⟨h'', x + 1, rfl, hrest, hlt, by rw [merged_take_succ kvs more x (k', v) hkv]; exact hd'', hoo'', hs'.trans hs''⟩
      dsimp only
      refine wpAny_bind (wpAny_holding ?_)
      cases unique with
      | false =>
        rw [if_neg Bool.false_ne_true]
        exact wpAny_mono put (fun _ s2 h => wpAny_mono h (fun r s3 hr => by cases r <;> exact hr) fun _ _ z => z) fun _ _ z => z
      | true =>
        rw [if_pos rfl]
        obtain ⟨od', esd', epd', hod', hcd', hdd', hkd', hpd', hnd'⟩ := id hd'
        have hz : (esd'.findIdx? fun e => (mixKind prog w).is k' e.key) = none := by
          have hidx : (esd'.findIdx? fun e => (mixKind prog w).is k' e.key) = (merged kvs (more.take x)).findIdx? fun kv => decide (kv.1 = k') := by
            rw [← hpd'.findIdx k']
            obtain ⟨l⟩ := esd'
            simp
          rw [hidx, hu rfl, merged_nil_of_nodup _ (hno.sublist ((List.take_sublist x more).map _)), List.findIdx?_eq_none_iff]
          intro p hp
          refine decide_eq_false fun e => ?_
          obtain ⟨m, hm, em⟩ := List.mem_iff_getElem.mp hp
          rw [List.length_take] at hm
          have e2 : more[m]'(by omega) = p := by rw [List.getElem_take] at em; exact em
          obtain ⟨hx', e3⟩ := List.getElem?_eq_some_iff.mp hkv
          have h1 : (more.map (·.1))[m]'(by rw [List.length_map]; omega) = (more.map (·.1))[x]'(by rw [List.length_map]; exact hx') := by
            rw [List.getElem_map, List.getElem_map, e2, e3]
            exact e
          have := (List.getElem_inj hno).mp h1
          omega
        refine wpAny_bind ?_
        rw [hhash]
        refine wpAny_dictFind_of hkey hod' hdd' hkd' ?_
        rw [hz, if_neg (by simp), ← hhash]
        exact wpAny_mono put (fun _ s2 h => wpAny_mono h (fun r s3 hr => by cases r <;> exact hr) fun _ _ z => z) fun _ _ z => z
    · rintro b s' ⟨h', i, rfl, hr, hi, hd', hoo', hs'⟩
      have hin : i = eso.size := by
        rcases Nat.lt_or_ge i eso.size with h | h
        · have e : eso.size - i = (eso.size - (i + 1)) + 1 := by omega
          rw [e, List.range'_succ] at hr
          exact nomatch hr
        · exact Nat.le_antisymm hi h
      refine wpAny_pure (hQ h' ?_ hs')
      rw [hin, ← hlen, List.take_length] at hd'
      exact hd'
  refine wpAny_bind (wpAny_dictEntries hod hdd ?_)
  by_cases hemp : esd.isEmpty = true
  · rw [if_pos hemp]
    refine wpAny_bind (wpAny_dictEntries hoo hdo' ?_)
    refine wpAny_bind ?_
    rw [← Array.forIn_toList]
    refine wpAny_forIn_list _ (fun rest _ s' => s' = s ∧ ∀ e ∈ rest, e ∈ eso.toList) _ ?_ ?_ _ _ ⟨rfl, fun e h => h⟩
    · rintro x rest b s' ⟨rfl, hr⟩
      obtain ⟨k', hkey', _⟩ := hko x (by simpa using hr x (List.mem_cons_self ..))
      have nr := key_noref hkey'
      cases hx : x.key with
      | ref q => exact absurd hx (nr q)
      | _ => exact wpAny_pure ⟨rfl, fun e h => hr e (List.mem_cons_of_mem _ h)⟩
    · rintro b s' ⟨rfl, _⟩
      exact loop
  · rw [if_neg hemp]
    exact loop
end
end K57

set_option Elab.async false
set_option linter.all false
set_option maxRecDepth 100000
set_option maxHeartbeats 4000000
/-! ZH: {**d, k: v}; f(**d). -/
namespace K57
open PySem PySem.Spec PyProof.Rows L2
section
variable {prog : Program} {w : World} {A : Around} {E : Value → Shared → Prop} {s : Shared}
theorem display_star {m k v : Sem Value} {Q : Value → Shared → Prop}
    (h : wpAny (model prog w) A m (fun mv s1 => wpAny (model prog w) A (mergeMapping s.heap.objs.size mv false) (fun _ s2 => wpAny (model prog w) A (subDict [(k, v)]) (fun sub s3 => wpAny (model prog w) A (mergeMapping s.heap.objs.size (.ref sub) false) (fun _ s4 => Q (.ref s.heap.objs.size) s4) (fun _ _ => False) s3) E s2) (fun _ _ => False) s1) E
      { s with heap := s.heap.push { cls := .type "dict", data := .dict #[] } }) : wpAny (model prog w) A (dictDisplay [(none, m), (some k, v)]) Q E s := by
  unfold dictDisplay
  dsimp only
  rw [List.forIn_cons]
  refine wpAny_bind (wpAny_bind ?_)
  simp only [List.isEmpty_nil, if_true]
  refine wpAny_bind (wpAny_pure ?_)
  dsimp only
  refine wpAny_bind (wpAny_alloc ?_)
  refine wpAny_bind (wpAny_holding (wpAny_mono h (fun mv s1 h1 => ?_) fun _ _ z => z))
  refine wpAny_bind (wpAny_onRaise (wpAny_tryCatch (wpAny_onRaise (wpAny_holding (wpAny_mono h1 (fun _ s2 h2 => ?_) fun _ _ z => z.elim)))))
  refine wpAny_pure ?_
  dsimp only
  rw [List.forIn_cons]
  refine wpAny_bind ?_
  dsimp only
  rw [if_neg (by simp)]
  refine wpAny_pure ?_
  dsimp only
  rw [List.forIn_nil]
  refine wpAny_pure ?_
  dsimp only
  refine wpAny_bind ?_
  rw [if_neg (by simp)]
  refine wpAny_bind (wpAny_holding (wpAny_mono h2 (fun sub s3 h3 => ?_) fun _ _ z => z))
  refine wpAny_bind (wpAny_onRaise (wpAny_holding (wpAny_mono h3 (fun _ s4 h4 => ?_) fun _ _ z => z.elim)))
  refine wpAny_pure ?_
  exact wpAny_pure h4
theorem subDict1 {k v : Sem Value} {Q : Addr → Shared → Prop}
    (h : wpAny (model prog w) A k (fun kv s1 => wpAny (model prog w) A v (fun vv s2 => wpAny (model prog w) A (dictSet s.heap.objs.size kv vv) (fun _ s3 => Q s.heap.objs.size s3) E s2) E s1) E
      { s with heap := s.heap.push { cls := .type "dict", data := .dict #[] } }) : wpAny (model prog w) A (subDict [(k, v)]) Q E s := by
  unfold subDict
  refine wpAny_bind (wpAny_alloc (wpAny_bind (wpAny_holding ?_)))
  rw [if_pos (by simp)]
  refine wpAny_bind ?_
  unfold evalPairs
  refine wpAny_bind (wpAny_mono h (fun kv s1 h1 => wpAny_bind (wpAny_holding (wpAny_mono h1 (fun vv s2 h2 => ?_) fun _ _ z => z))) fun _ _ z => z)
  unfold evalPairs
  refine wpAny_bind (wpAny_holding (wpAny_pure (wpAny_pure ?_)))
  refine wpAny_holding ?_
  refine wpAny_bind ?_
  rw [List.forIn_cons]
  refine wpAny_bind (wpAny_bind (wpAny_mono h2 (fun _ s3 h3 => wpAny_pure ?_) fun _ _ z => z))
  dsimp only
  rw [List.forIn_nil]
  exact wpAny_pure (wpAny_pure (wpAny_pure h3))
end
section
variable {X : Cx} {σ : L2.St} {H : Hp} {pos : Pos} {e1 e2 ek : Expr}
theorem ev_star {a : Addr} {kvs : List (Key × V)} {z : Str} {v : V} (h1 : Ev X e1 σ H (.ref a)) (ha : Rd H a (.dK kvs)) (hk : Ev X ek σ H (.str z)) (h2 : Ev X e2 σ H v) (hl : kvs.length ≤ 100) : EvP X (.Dict [none, some ek] [e1, e2] pos) σ H (Pd.dv (mergeK (mergeK [] kvs) [(.inr z, v)])) := by
  refine fun H1 l => ⟨fun pins s I => ?_⟩
  rw [arm_eval_Dict]
  refine wpAny_bind (wpAny_standAt ?_)
  show wpAny _ _ (dictDisplay [(none, do let x ← eval e1 X.env; standAt pos; pure x), (some (eval ek X.env), do let x ← eval e2 X.env; standAt pos; pure x)]) _ _ _
  have hn := I.hok.fresh (Nat.le_refl s.heap.objs.size)
  have I1 := I.laid (a := s.heap.objs.size) (o := .dK []) (h' := s.heap.push { cls := .type "dict", data := .dict #[] }) (t' := s.toks) (fun _ _ q => Heap.get?_push_of_some _ q) (Nat.le_refl _) (dk_empty s.heap I.big)
  have hB := le_none l hn
  have l1 := l.mut (o := .dK []) hB
  refine display_star (wpAny_bind (thn ((h1 _ l1).run pins _ I1) fun u s2 ⟨x, H2, I2, rx, B2, st2, (ex : x = .ref a)⟩ => wpAny_bind (wpAny_standAt (wpAny_pure ?_))))
  subst ex
  obtain rfl : u = Value.ref a := rx
  have sm2 : Same H1 H2 := (same_new hn).trans st2.same
  have hd2 := st2.same s.heap.objs.size _ upd_same
  have ha1 : H1 a ≠ none := fun e => by
    have e2 := le_none l e
    rcases ha with q | ⟨o, q⟩ <;> rw [e2] at q <;> cases q
  have hda : s.heap.objs.size ≠ a := fun e => ha1 (by rw [← e]; exact hn)
  obtain ⟨zd, hdS, vsd, reld, ddd⟩ := dk_of I2.hok hd2
  obtain ⟨za, haS, vsa, rela, dda⟩ := dk_rd I2.hok ((l.trans (le_of sm2)).dk ha)
  cases reld
  have hva : vsa.length ≤ 100 := by rw [← rela.length]; exact hl
  refine merge_ok hda haS ddd dda (fun _ => rfl) (fun h3 dd3 sb3 => ?_) (Nat.le_trans (by simpa using hva) (by decide : 100 ≤ sizeLine))
  have rel3 : KV (mergeK [] kvs) (merged [] vsa) := KV.merge rela .nil
  have len3 : (mergeK [] kvs).length ≤ 100 := by
    rw [rel3.length]
    have := merged_length_le ([] : List (Key × Value)) vsa
    simp at this
    omega
  have I3 := d_write (t' := s2.toks) I2 (by rw [hd2]; exact True.intro) sb3 (let ⟨q, _, _, hq, _⟩ := dd3; ⟨q, hq⟩) (dk_new (H' := upd H2 s.heap.objs.size (.dK (mergeK [] kvs))) (Nat.le_trans len3 (by decide : 100 ≤ sizeLine)) hdS rel3 dd3)
  have sm3 : Same H1 (upd H2 s.heap.objs.size (.dK (mergeK [] kvs))) := same_mut sm2 hn
  generalize hS3 : ({ s2 with heap := h3 } : Shared) = s3 at I3 ⊢
  generalize hH3 : upd H2 s.heap.objs.size (.dK (mergeK [] kvs)) = H3 at I3 sm3
  have hd3 : H3 s.heap.objs.size = some (.dK (mergeK [] kvs)) := by rw [← hH3]; exact upd_same
  have hn4 := I3.hok.fresh (Nat.le_refl s3.heap.objs.size)
  have hnd : s3.heap.objs.size ≠ s.heap.objs.size := fun e => by rw [e, hd3] at hn4; cases hn4
  have I4 := I3.laid (a := s3.heap.objs.size) (o := .dK []) (h' := s3.heap.push { cls := .type "dict", data := .dict #[] }) (t' := s3.toks) (fun _ _ q => Heap.get?_push_of_some _ q) (Nat.le_refl _) (dk_empty s3.heap I3.big)
  have sm4 : Same H1 (upd H3 s3.heap.objs.size (.dK [])) := same_mut sm3 (sm3.free hn4)
  refine subDict1 (thn ((hk _ (l.trans (le_of sm4))).run pins _ I4) fun u5 s5 ⟨x5, H5, I5, rx5, B5, st5, (ex5 : x5 = .str z)⟩ => ?_)
  subst ex5
  have sm5 := sm4.trans st5.same
  refine wpAny_bind (thn ((h2 _ (l.trans (le_of sm5))).run pins _ I5) fun u6 s6 ⟨x6, H6, I6, rx6, B6, st6, (ex6 : x6 = v)⟩ => wpAny_bind (wpAny_standAt (wpAny_pure ?_)))
  subst ex6
  have sm6 := sm5.trans st6.same
  have hs6 : H6 s3.heap.objs.size = some (.dK []) := st6.same _ _ (st5.same _ _ upd_same)
  have hd6 : H6 s.heap.objs.size = some (.dK (mergeK [] kvs)) := st6.same _ _ (st5.same _ _ (by rw [upd_ne hnd.symm]; exact hd3))
  refine d_dictSet (k := .inr z) I6 hs6 (by decide) rx5 rx6 fun s7 I7 => ?_
  have sm7 : Same H1 (upd H6 s3.heap.objs.size (.dK (putK [] (.inr z) x6))) := same_mut sm6 (sm3.free hn4)
  have hd7 : upd H6 s3.heap.objs.size (.dK (putK [] (.inr z) x6)) s.heap.objs.size = some (.dK (mergeK [] kvs)) := by rw [upd_ne hnd.symm]; exact hd6
  obtain ⟨zd7, hdS7, vsd7, reld7, ddd7⟩ := dk_of I7.hok hd7
  obtain ⟨zs7, hsS7, vss7, rels7, dds7⟩ := dk_of I7.hok (upd_same (H := H6) (a := s3.heap.objs.size))
  have l7 : vsd7.length ≤ 100 := by rw [← reld7.length]; exact len3
  have l7b : vss7.length ≤ 1 := by rw [← rels7.length]; simp [putK]
  refine merge_ok hnd.symm hsS7 ddd7 dds7 (fun e => nomatch e) (fun h8 dd8 sb8 => ?_) (Nat.le_trans (by omega : vsd7.length + vss7.length ≤ 101) (by decide : 101 ≤ sizeLine))
  have rel8 : KV (mergeK (mergeK [] kvs) (putK [] (.inr z) x6)) (merged vsd7 vss7) := KV.merge rels7 reld7
  have len8 : (mergeK (mergeK [] kvs) (putK [] (.inr z) x6)).length ≤ 101 := by
    rw [rel8.length]
    have := merged_length_le vsd7 vss7
    omega
  have I8 := d_write (t' := s7.toks) I7 (by rw [hd7]; exact True.intro) sb8 (let ⟨q, _, _, hq, _⟩ := dd8; ⟨q, hq⟩) (dk_new (H' := upd (upd H6 s3.heap.objs.size (.dK (putK [] (.inr z) x6))) s.heap.objs.size (.dK (mergeK (mergeK [] kvs) (putK [] (.inr z) x6)))) (Nat.le_trans len8 (by decide : 101 ≤ sizeLine)) hdS7 rel8 dd8)
  exact ⟨.ref s.heap.objs.size, _, I8, rfl, _, Stp.own (Stp.keep l (same_mut sm7 hn)) hn upd_same hB, s.heap.objs.size, rfl, .inl upd_same⟩
end
end K57

set_option Elab.async false
set_option linter.all false
set_option maxRecDepth 100000
set_option maxHeartbeats 4000000
/-! ZY: C(**d). -/
namespace K57
open PySem PySem.Spec PyProof.Rows L2
section
variable {prog : Program} {w : World} {A : Around} {E : Value → Shared → Prop} {s : Shared} {f : Value}
def kwOf : List (Key × Value) → List (Str × Value)
  | [] => []
  | (.inr z, v) :: r => (z, v) :: kwOf r
  | (.inl _, _) :: r => kwOf r
theorem keywordsIn_ok {d : Addr} {vs : List (Key × Value)} {Q : List (Str × Value) → Shared → Prop} (hd : s.heap.DictOf (mixKind prog w) d vs) (hs : ∀ p ∈ vs, ∃ z, p.1 = .inr z) (hQ : Q (kwOf vs) s) : wpAny (model prog w) A (keywordsIn f d) Q E s := by
  obtain ⟨od, esd, epd, hod, hcd, hdd, hkd, hpd, hnd⟩ := id hd
  unfold keywordsIn
  dsimp only
  refine wpAny_bind (wpAny_dictEntries hod hdd ?_)
  refine wpAny_bind ?_
  rw [← Array.forIn_toList]
  refine wpAny_forIn_list _ (fun rest kw s' => s' = s ∧ ∃ vr, Pairs (mixKind prog w) rest vr ∧ (∀ p ∈ vr, ∃ z, p.1 = (.inr z : Key)) ∧ kw ++ kwOf vr = kwOf vs) _ ?_ ?_ _ _ ⟨rfl, vs, hpd, hs, by simp⟩
  · rintro x rest b s' ⟨rfl, vr, hp, hz, hk⟩
    cases hp with
    | cons h1 h2 h3 =>
      rename_i kv kvr
      obtain ⟨z, ez⟩ := hz _ (List.mem_cons_self ..)
      obtain ⟨k, v⟩ := kv
      have ez' : k = .inr z := ez
      subst ez'
      have h1' : keyIs (.inr z) x.key = true := h1
      cases hx : x.key with
      | str y t =>
        rw [hx] at h1'
        have ey : y = z := eq_of_beq h1'
        subst ey
        refine wpAny_pure ⟨rfl, kvr, h3, fun p hp => hz p (List.mem_cons_of_mem _ hp), ?_⟩
        rw [← hk]
        show (b ++ [(y, x.val)]) ++ kwOf kvr = b ++ ((y, v) :: kwOf kvr)
        rw [show x.val = v from h2, List.append_assoc]
        rfl
      | _ => rw [hx] at h1'; cases h1'
  · rintro b s' ⟨rfl, vr, hp, hz, hk⟩
    cases hp
    have e : b = kwOf vs := by
      rw [← hk]
      simp [kwOf]
    rw [e]
    exact wpAny_pure hQ
theorem evalArgs_star {m : Sem Value} {Q : Args → Shared → Prop}
    (h : wpAny (model prog w) A m (fun mv s1 => wpAny (model prog w) A (mergeMapping s.heap.objs.size mv true) (fun _ s2 => wpAny (model prog w) A (keywordsIn f s.heap.objs.size) (fun kw s3 => Q ⟨[], kw⟩ s3) E s2) (fun _ _ => False) s1) E
      { s with heap := s.heap.push { cls := .type "dict", data := .dict #[] } }) : wpAny (model prog w) A (evalArgs f true [] [(none, m)]) Q E s := by
  unfold evalArgs
  dsimp only
  refine wpAny_bind (wpAny_pure (wpAny_bind (wpAny_pure (wpAny_holding ?_))))
  rw [if_neg (by simp)]
  refine wpAny_bind ?_
  unfold mergedKeywords
  refine wpAny_bind (wpAny_alloc (wpAny_bind (wpAny_holding ?_)))
  dsimp only
  rw [List.forIn_cons]
  refine wpAny_bind (wpAny_bind ?_)
  dsimp only
  rw [if_pos (show ([] : List (Str × Sem Value)).isEmpty = true from rfl)]
  refine wpAny_bind (wpAny_pure ?_)
  refine wpAny_bind (wpAny_mono h (fun mv s1 h1 => ?_) fun _ _ z => z)
  refine wpAny_bind (wpAny_onRaise (wpAny_holding (wpAny_tryCatch (wpAny_onRaise (wpAny_mono h1 (fun _ s2 h2 => ?_) fun _ _ z => z.elim)))))
  refine wpAny_pure ?_
  show wpAny _ _ (forIn ([] : List (Option Str × Sem Value)) _ _) _ _ _
  rw [List.forIn_nil]
  refine wpAny_pure ?_
  rw [if_pos (show ([] : List (Str × Sem Value)).isEmpty = true from rfl)]
  refine wpAny_pure ?_
  refine wpAny_pure ?_
  refine wpAny_bind (wpAny_pure ?_)
  exact wpAny_bind (wpAny_holding (wpAny_mono h2 (fun kw s3 h3 => wpAny_pure h3) fun _ _ z => z))
theorem callWith_star {K : PySem.W.Frag} {pos : Pos} {m : Sem Value} {Q : Value → Shared → Prop} (hk : PySem.W.keepIn K f = true)
    (h : wpAny (model prog w) A (evalArgs f true [] [(none, m)]) (fun a s₁ => K.In s₁.heap ∧ wpAny (model prog w) A (call f a.pos a.kw) Q E s₁) E s) : wpAny (model prog w) A (callWith pos f [] [] [(none, m)]) Q E s := by
  unfold callWith
  refine wpAny_bind (wpAny_holding (wpAny_mono h (fun a s₁ h₁ => wpAny_bind (wpAny_standAt ?_)) fun _ _ x => x))
  obtain ⟨k, hk', L⟩ := PySem.W.looks_keep (M := model prog w) hk h₁.1
  have hs : (([] : List (Bool × Sem Value)).any (·.1) || [((none : Option Str), m)].any (·.1.isNone)) = true := rfl
  rw [hs]
  dsimp only
  refine wpAny_bind (L.here ?_)
  have tail : ∀ {t : Sem Value}, wpAny (model prog w) A t Q E s₁ → wpAny (model prog w) A (t >>= fun r => holding [r] point >>= fun _ => pure r) Q E s₁ :=
    fun ht => wpAny_bind (wpAny_mono ht (fun r s₂ hr => wpAny_bind (wpAny_holding (wpAny_point (wpAny_pure hr)))) fun _ _ x => x)
  rcases hk' with rfl | rfl <;> dsimp only
  · refine tail ?_
    unfold callMarked
    exact Calls.wpAny_keep h₁.2
  · exact tail (wpAny_operateT h₁.2)
end
end K57

set_option Elab.async false
set_option linter.all false
set_option maxRecDepth 100000
set_option maxHeartbeats 4000000
/-! ZYb: books.py, the parts that write. -/
namespace K57
open PySem PySem.Spec PyProof.Rows L2
theorem vals_getD : ∀ {vs : List V} {us : List Value} (i : Nat), Vals vs us → RelV (vs.getD i .non) (us.getD i .none)
  | _, _, _, .nil => rfl
  | _, _, 0, .cons r _ => r
  | _, _, i + 1, .cons _ t => vals_getD i t
section
variable {X : Cx} {σ : L2.St} {H : Hp} {e : Expr} {pos p kp : Pos} {n : Str}
theorem we_makeStar {a q : Addr} {g : Str} {rows : List (Str × List Str)} (T : Tx X.prog X.K X.mg) (hr : Room 7 X.A) (hn : n = "NetBook") (hg : Gl X n) (he : Ev X e σ H (.ref a)) (ha : Rd H a (.dK [(.inr "guard", V.str g), (.inr "needs", V.ref q)])) (hq : NetAt X.K H q rows) (hG : okG g) :
    ∀ H1, Le H H1 → WE X (.Call (.Name n p) [] [⟨none, e, kp⟩] pos) σ H1 (MadeP (cNetBook X.K) H H1 (fun fs B' => BookFs X.K B' fs g rows)) := fun H1 l => by
  refine ⟨fun pins s I => ?_⟩
  subst hn
  obtain ⟨fd, cc, cda, I0⟩ := init_fd T
  have M := T.k_NetBook
  have F := fn_NetBook_init (P := X.prog) (w := X.w) (mg := X.mg) (base := X.base) T I0
  have kb : KBn X.K fd ["self", "needs", "guard"] 1 ["guard", "needs"] (fun us ws => [us.getD 0 .none, ws.getD 1 .none, ws.getD 0 .none]) (fun us ws => [us.getD 0 .non, ws.getD 1 .non, ws.getD 0 .non]) :=
    ⟨fun s us ws _ l1 l2 => match us, ws, l1, l2 with
      | [u0], [u1, u2], _, _ => init_bindsK T I0 s u0 u1 u2, fun r1 r2 => .cons (vals_getD 0 r1) (.cons (vals_getD 1 r2) (.cons (vals_getD 0 r2) .nil))⟩
  refine wpAny_Call_Name_kw (ld_glob I hg T.g_NetBook ?_)
  show wpAny _ _ (callWith pos (.ref (cNetBook X.K)) [] [] [(none, do let v ← eval e X.env; standAt pos; pure v)]) _ _ _
  refine callWith_star (K := X.K) M.kp (evalArgs_star ?_)
  have hnd := I.hok.fresh (Nat.le_refl s.heap.objs.size)
  have I1 := I.laid (a := s.heap.objs.size) (o := .dK []) (h' := s.heap.push { cls := .type "dict", data := .dict #[] }) (t' := s.toks) (fun _ _ q => Heap.get?_push_of_some _ q) (Nat.le_refl _) (dk_empty s.heap I.big)
  have l1 := l.mut (o := .dK []) (le_none l hnd)
  refine wpAny_bind (thn ((he _ l1).run pins _ I1) fun u s2 ⟨x, H2, I2, rx, B2, st2, (ex : x = .ref a)⟩ => wpAny_bind (wpAny_standAt (wpAny_pure ?_)))
  subst ex
  obtain rfl : u = Value.ref a := rx
  have sm2 : Same H1 H2 := (same_new hnd).trans st2.same
  have hd2 := st2.same s.heap.objs.size _ upd_same
  have ha1 : H1 a ≠ none := fun e => by
    have e2 := le_none l e
    rcases ha with q | ⟨o, q⟩ <;> rw [e2] at q <;> cases q
  have hda : s.heap.objs.size ≠ a := fun e => ha1 (by rw [← e]; exact hnd)
  obtain ⟨zd, hdS, vsd, reld, ddd⟩ := dk_of I2.hok hd2
  obtain ⟨za, haS, vsa, rela, dda⟩ := dk_rd I2.hok ((l.trans (le_of sm2)).dk ha)
  cases reld
  obtain ⟨u1, u2, eva, r1, r2⟩ : ∃ u1 u2, vsa = [((.inr "guard" : Key), u1), (.inr "needs", u2)] ∧ RelV (.str g) u1 ∧ RelV (.ref q) u2 := by
    unfold KV at rela
    cases rela with
    | cons h1 t1 =>
      cases t1 with
      | cons h2 t2 =>
        cases t2
        rename_i q1 q2
        obtain ⟨k1, w1⟩ := q1
        obtain ⟨k2, w2⟩ := q2
        obtain ⟨e1, g1⟩ := h1
        obtain ⟨e2, g2⟩ := h2
        have e1' : (Sum.inr "guard" : Key) = k1 := e1
        have e2' : (Sum.inr "needs" : Key) = k2 := e2
        subst e1' e2'
        exact ⟨w1, w2, rfl, g1, g2⟩
  subst eva
  refine merge_ok hda haS ddd dda (fun _ => rfl) (fun h3 dd3 sb3 => ?_) (by show 0 + 2 ≤ sizeLine; decide)
  have dd3' : h3.DictOf (mixKind X.prog X.w) s.heap.objs.size [((.inr "guard" : Key), u1), (.inr "needs", u2)] := dd3
  have I3 := d_write (t' := s2.toks) I2 (by rw [hd2]; exact True.intro) sb3 (let ⟨q, _, _, hq, _⟩ := dd3; ⟨q, hq⟩) (dk_new (kvs := [((.inr "guard" : Key), V.str g), (.inr "needs", V.ref q)]) (H' := upd H2 s.heap.objs.size (.dK [((.inr "guard" : Key), V.str g), (.inr "needs", V.ref q)])) (by show 2 ≤ sizeLine; decide) hdS rela dd3')
  have sm3 : Same H1 (upd H2 s.heap.objs.size (.dK [((.inr "guard" : Key), V.str g), (.inr "needs", V.ref q)])) := same_mut sm2 hnd
  refine keywordsIn_ok dd3' (by simp) ?_
  refine ⟨I3.kIn, ?_⟩
  show wpAny _ _ (call (.ref (cNetBook X.K)) [] ((["guard", "needs"] : List Str).zip [u1, u2])) _ _ _
  refine run_makeK (E := C8.E0) (n := 0) (vs := []) (zs := [V.str g, V.ref q]) M F hr kb C8.pass0 I3 .nil (.cons r1 (.cons r2 .nil)) rfl rfl ?_
  exact made_of (Stp.keep l sm3) ⟨q, g, rows, rfl, hq, hG, rfl⟩ fun _ _ z => z
end
section
variable {X : Cx} {σ : L2.St} {H : Hp} {e : Expr} {pos : Pos}
theorem ev_dictD {p : Pos} {q : Addr} {kvs : List (Key × V)} (hm : X.mg "dict" = none) (hv : bootBuiltins "dict" = some (.type "dict")) (h : Ev X e σ H (.ref q)) (hq : Rd H q (.dK kvs)) (hg : Gl X "dict" := by rfl)
    (he : starEach [e] X.env = (false, eval e X.env) :: starEach [] X.env := by rfl) : EvP X (.Call (.Name "dict" p) [e] [] pos) σ H (Pd.dv kvs) :=
  ev_ct call_dictD hm hv (ea_1 h he) (fun vs B H' lb l hs Q k => by
    obtain ⟨v, rfl, (p1 : v = .ref q)⟩ := holds1 hs
    subst p1
    exact ⟨q, kvs, rfl, (lb.trans l).dk hq, fun p hp => k _ _ _ (.new l hp) ⟨p, rfl, .inl upd_same⟩⟩) hg (by decide) (by decide) he rfl
end
/-- all but what stands at p -/
noncomputable def cutP (B : Hp) (p : Addr) : Hp := fun x => if x = p then none else B x
theorem cutP_same {B : Hp} {p : Addr} : cutP B p p = none := if_pos rfl
theorem cutP_ne {B : Hp} {p x : Addr} (h : x ≠ p) : cutP B p x = B x := if_neg h
theorem le_cutP {B : Hp} {p : Addr} : Le (cutP B p) B := fun x o h => by
  by_cases q : x = p
  · subst q
    rw [cutP_same] at h
    cases h
  · rw [cutP_ne q] at h
    exact .inl h
theorem Stp.drop {B H B3 H3 : Hp} {p : Addr} {C dx : Addr} {fs : List (Str × V)} (s : Stp (upd B p (.ins C dx fs)) H B3 H3) (hB : B p = none) : Stp B H (cutP B3 p) H3 := by
  have hp3 : B3 p = some (.ins C dx fs) := s.up.ins upd_same
  refine ⟨s.same, fun x o hx => ?_, le_cutP.trans s.lo, fun x hx hy => ?_⟩
  · have na : x ≠ p := fun q => by rw [q, hB] at hx; cases hx
    rcases s.up x o (by rw [upd_ne na]; exact hx) with h1 | ⟨kvs, d, r⟩
    · exact .inl (by rw [cutP_ne na]; exact h1)
    · refine .inr ⟨kvs, d, ?_⟩
      rcases r with r | ⟨ob, r⟩
      · exact .inl (by rw [cutP_ne na]; exact r)
      · exact .inr ⟨ob, by rw [cutP_ne na]; exact r⟩
  · by_cases q : x = p
    · rw [q, cutP_same]
    · rw [cutP_ne q]
      exact s.non x (by rw [upd_ne q]; exact hx) hy
theorem rd_cutP {B : Hp} {p a C dx : Addr} {fs : List (Str × V)} {kvs : List (Key × V)} (hp : B p = some (.ins C dx fs)) (h : Rd B a (.dK kvs)) : Rd (cutP B p) a (.dK kvs) := by
  have na : a ≠ p := fun q => by
    subst q
    rcases h with h | ⟨o, h⟩ <;> rw [hp] at h <;> cases h
  rcases h with h | ⟨o, h⟩
  · exact .inl (by rw [cutP_ne na]; exact h)
  · exact .inr ⟨o, by rw [cutP_ne na]; exact h⟩
section
variable {P : Program} {w : World} {K : PySem.W.Frag} {mg : Str → Option Value} {base : Heap} (T : Tx P K mg)
include T
def A_twin (K : PySem.W.Frag) : List V → Hp → Pd → Prop := fun vs B R => ∃ p g rows, vs = [.ref p] ∧ BookAt K B p g rows ∧ okG g ∧ R = Pd.book K g rows
theorem met_twin : C8.Met P w K mg base 8 (cNetBook K) "twin" (pureSp (A_twin K)) [] :=
  met_pure T.d_NetBook_twin T.c_NetBook T.m_NetBook_twin ⟨rfl, rfl, rfl, by decide +kernel, rfl, by decide +kernel, by decide +kernel⟩ (fun _ _ _ _ _ _ us hl => match us, hl with | [_], _ => rfl) (N := ["self", "own"]) (ps := ["self"]) (fun vs B R ⟨_, _, _, e, _⟩ => by rw [e]; rfl)
    fun cdv A0 outer s H0 E vs B H R D hr l ⟨p, g, rows, e, ⟨dx, fs, hp, lo, d, ef, q, h1, h2⟩, hg, eR⟩ q1 q2 => by
      subst e
      subst eR
      subst ef
      refine cb_set 1 (P1 := Pd.dv [(.inr "guard", V.str g), (.inr "needs", V.ref q)]) (ev_dictD T.f_dict rfl (ev_fld (ev_name (i := 0) rfl) hp T.c_NetBook T.n_NetBook_own rfl) h1) l fun v B1 H1 s1 ⟨a, ev, ha⟩ => ?_
      subst ev
      refine ws_retW (we_makeStar T hr rfl rfl (H := B1) (ev_name (i := 1) rfl) ha (h2.le s1.up) hg H1 s1.lo) fun v H2 m => ?_
      obtain ⟨B2, s2, p2⟩ := m.pd (P := Pd.book K g rows) fun p dx fs B' hB hf => ⟨p, rfl, dx, fs, upd_same, hf.le (Le.new hB)⟩
      exact q1 v B2 H2 (s1.trans s2) p2
/-- the promise of book[word] = value -/
def spSet (K : PySem.W.Frag) : Sp := fun vs H Q _ => ∃ p dx fs g g' rows B, vs = [.ref p, .str "guard", .str g'] ∧ H p = some (.ins (cNetBook K) dx fs) ∧ B p = none ∧ Le B H ∧ BookFs K B fs g rows ∧ okG g' ∧
  ∀ fs' B' H', StpX [p] B H B' H' → H' p = some (.ins (cNetBook K) dx fs') → B' p = none → BookFs K B' fs' g' rows → Q .non H'
theorem fn_Book_set : ∃ fd, FnOk P w K mg base CX0 4 (He.ma K (cNetBook K) "__setitem__") fd ["self", "word", "value"] (spSet K) ∧ Binds K fd ["self", "word", "value"] [] := by
  obtain ⟨fd, F⟩ := T.d_Book_setitem
  refine ⟨fd, fn_w F (N := ["self", "word", "value"]) ⟨rfl, rfl, rfl, by decide +kernel, rfl, by decide +kernel, by decide +kernel⟩ (fun vs H Q E ⟨_, _, _, _, _, _, _, e, _⟩ => by rw [e]; rfl) ?_, F.bindsN (fun _ _ _ _ _ _ us hl => match us, hl with | [_, _, _], _ => rfl)⟩
  intro cdv A0 outer s H0 vs H Q E hr ⟨p, dx, fs, g, g', rows, B, e, hp, hBp, l, hfs, hg, k⟩
  subst e
  have ⟨lo, d, ef, q, h1, h2⟩ := hfs
  subst ef
  have hpn : H p ≠ none := by rw [hp]; simp
  have lb := le_put l hp
  have up1 : Le B (upd B p (.ins (cNetBook K) dx [(("order_of_words" : Str), V.ref lo), (("own" : Str), V.ref d)])) := Le.new hBp
  refine ws_expr (P := Pd.v .non) (ev_meth (met_look_word T) hr (ev_name (i := 0) rfl) upd_same rfl (ea_1 (ev_name (i := 1) rfl)) fun vs B1 l1 h => ?_) lb fun v B1 H1 s1 _ => ?_
  · obtain ⟨v, rfl, e⟩ := holds1 h
    exact ⟨p, dx, _, g, rows, "guard", by rw [show v = _ from e], l1.ins upd_same, hfs.le (up1.trans l1), .inl rfl, rfl⟩
  have t1 : StpX [p] B H B H1 := (StpX.refl l).step s1.same
  have lb1 := le_put t1.lo (s1.same _ _ hp)
  refine ws_ifN (et_not (k := true) (et_v (ev_meth (met_is_value T) hr (ev_name (i := 0) rfl) upd_same rfl (ea_cons (ev_name (i := 1) rfl) (ea_1 (ev_name (i := 2) rfl))) fun vs B1 l1 h => ?_))) lb1 fun H2 s2 => ?_
  · obtain ⟨v1, v2, rfl, e1, e2⟩ := holds2 h
    exact ⟨.inl ⟨_, g', by rw [show v1 = _ from e1, show v2 = _ from e2], hg⟩, rfl⟩
  have t2 := t1.step s2
  have hp2 := s2 _ _ (s1.same _ _ hp)
  refine ws_fld (P := Pd.dv [(.inr "guard", V.str g'), (.inr "needs", V.ref q)]) ?_ (le_put t2.lo hp2) (fun s => (ev_name (i := 0) rfl)) hp2 T.c_NetBook T.n_NetBook_own (by show 2 < 100; decide) fun v B3 H3 s3 ⟨a, ev, hv⟩ hp3 => ?_
  · exact EvP.imp (ev_star (ev_fld (ev_name (i := 0) rfl) upd_same T.c_NetBook T.n_NetBook_own rfl) (up1.dk h1) (ev_name (i := 1) rfl) (ev_name (i := 2) rfl) (by show 2 ≤ 100; decide)) fun v H' _ h => h
  subst ev
  have s4 := s3.drop hBp
  have hB3 : B3 p = some (.ins (cNetBook K) dx [(("order_of_words" : Str), V.ref lo), (("own" : Str), V.ref d)]) := s3.up.ins upd_same
  have t3 : StpX [p] B H (cutP B3 p) H3 := t2.trans s4.x (fun x hx => by rw [List.mem_singleton.mp hx, hp2]; simp)
  exact ws_nil (k _ _ _ (t3.after (List.mem_singleton.mpr rfl) hBp hpn) upd_same cutP_same ⟨lo, a, rfl, q, rd_cutP hB3 hv, h2.le t3.up⟩)
end
end K57

set_option Elab.async false
set_option linter.all false
set_option maxRecDepth 100000
set_option maxHeartbeats 4000000
/-! YA: settings.py. -/
namespace K57
open PySem PySem.Spec PyProof.Rows L2
section
variable {P : Program} {w : World} {K : PySem.W.Frag} {mg : Str → Option Value} {base : Heap} {N : List Str} {qual : Str} {sc scope : Scope} {f : Addr} {cdv : Value} {A0 : Around} {outer : List Env} {s0 : Shared} {H0 : Hp} {E0 : XK} {x : Str} {px : Pos}
theorem cb_gname (j : Nat) (nd : decide N.Nodup = true := by rfl) (hi : N[j]? = some x := by rfl) (hx : Loc sc x := by first | exact Or.inl rfl | exact Or.inr rfl)
    (hfn : (Cb P w K mg base N qual sc f cdv A0 outer s0 H0 E0).fn x = true ∨ sc.names.lookup x = some .local := by first | exact .inl rfl | exact .inr rfl) : PG (Cb P w K mg base N qual sc f cdv A0 outer s0 H0 E0) (.Name x px) (gName j) := pg_name (of_decide_eq_true nd) hi hx hfn
end
/-- a setting's fields: its book, how many hands -/
def SetFs (K : PySem.W.Frag) (H : Hp) (fs : List (Str × V)) (g : Str) (rows : List (Str × List Str)) (n : Int) : Prop := ∃ (b : Addr) (vn : V), fs = [(("base" : Str), V.ref b), (("numbers" : Str), vn)] ∧ BookAt K H b g rows ∧ Dp K H vn (.tuple [.int n, .int 1, .int 0])
def SetAt (K : PySem.W.Frag) (H : Hp) (p : Addr) (g : Str) (rows : List (Str × List Str)) (n : Int) : Prop := ∃ dx fs, H p = some (.ins (cSetting K) dx fs) ∧ SetFs K H fs g rows n
theorem SetFs.le {K : PySem.W.Frag} {H H' : Hp} {fs : List (Str × V)} {g : Str} {rows : List (Str × List Str)} {n : Int} (e : Le H H') (h : SetFs K H fs g rows n) : SetFs K H' fs g rows n := let ⟨b, vn, h1, h2, h3⟩ := h; ⟨b, vn, h1, h2.le e, e.dp h3⟩
theorem SetAt.le {K : PySem.W.Frag} {H H' : Hp} {p : Addr} {g : Str} {rows : List (Str × List Str)} {n : Int} (e : Le H H') (h : SetAt K H p g rows n) : SetAt K H' p g rows n := let ⟨dx, fs, h1, h2⟩ := h; ⟨dx, fs, e.ins h1, h2.le e⟩
def Pd.set (K : PySem.W.Frag) (g : Str) (rows : List (Str × List Str)) (n : Int) : Pd := ⟨fun x H => ∃ p, x = .ref p ∧ SetAt K H p g rows n, fun e ⟨p, h1, h2⟩ => ⟨p, h1, h2.le e⟩⟩
/-- what the three numbers are held against -/
def numIt (n : Int) : List (Str × Int × Int × Int) := [("hands", n, 1, 4), ("makes", 1, 1, 6), ("fails", 0, 0, 4)]
def numD (q : Str × Int × Int × Int) : PyData := .tuple [.str q.1, .int q.2.1, .int q.2.2.1, .int q.2.2.2]
section
variable {P : Program} {w : World} {K : PySem.W.Frag} {mg : Str → Option Value} {base : Heap} (T : Tx P K mg)
include T
def A_Set (K : PySem.W.Frag) : List V → Hp → (List (Str × V) → Hp → Prop) → Prop := fun args B Fs => ∃ b g rows n, args = [.ref b, .int n, .int 1, .int 0] ∧ BookAt K B b g rows ∧ okG g ∧ 1 ≤ n ∧ n ≤ 4 ∧ Fs = fun fs B' => SetFs K B' fs g rows n
theorem fn_Set_init : ∃ fd, FunD K "__init__" "Setting.__init__" (defArgs s_Setting_init) (defBody s_Setting_init) (defScope s_Setting_init) [V.int 2] [("makes", V.int 2), ("fails", V.int 1)] (He.ma K (cSetting K) "__init__") fd ∧ FnOk P w K mg base CX0 9 (He.ma K (cSetting K) "__init__") fd ["self", "book", "hands", "makes", "fails"] (initSp (cSetting K) (A_Set K)) := by
  obtain ⟨fd, F⟩ := T.d_Setting_init
  refine ⟨fd, F, fn_w F (N := ["self", "book", "hands", "makes", "fails", "low", "word", "value", "least", "most"]) ⟨rfl, rfl, rfl, by decide +kernel, rfl, by decide +kernel, by decide +kernel⟩ (fun vs H Q E ⟨p, dx, args, B, Fs, e, _, _, _, ⟨_, _, _, _, e2, _⟩, _⟩ => by rw [e, e2]; rfl) ?_⟩
  intro cdv A0 outer s H0 vs H Q E hr ⟨p, dx, args, B, Fs, e, hp, hBp, l, ⟨b, g, rows, n, ea, hb, hg, n1, n4, eF⟩, k⟩
  subst ea
  subst e
  subst eF
  have hpn : H p ≠ none := by rw [hp]; simp
  have ⟨dxb, fsb, hb1, hb2⟩ := hb
  obtain ⟨t4, g4⟩ := T.i_MOST_HANDS
  obtain ⟨t6, g6⟩ := T.i_MOST_MAKES
  obtain ⟨t5, g5⟩ := T.i_MOST_FAILS
  refine ws_expr (P := Pd.v .non) (ev_call (cal_look_book T) hr (ea_1 (ev_name (i := 1) rfl)) fun vs B1 l1 h => ?_) l fun v B1 H1 s1 _ => ?_
  · obtain ⟨v, rfl, e⟩ := holds1 h
    exact ⟨b, dxb, fsb, by rw [show v = _ from e], l1.ins hb1, rfl⟩
  refine cb_set 5 (P1 := Pd.v (.int 1)) (ev_if (k := false) (et_eqs (ev_prop (prp_way T) hr (ev_name (i := 1) rfl) (s1.up.ins hb1) fun B2 l2 => ⟨_, rfl, rfl⟩) ev_str rfl (by decide +kernel)) (fun q => nomatch q) fun _ => ev_int) s1.lo fun v B2 H2 s2 ev => ?_
  have ev' : v = .int 1 := ev
  subst ev'
  have st2 := s1.trans s2
  refine ws_forL (X := Cb P w K mg base _ _ _ _ _ _ _ _ _ _) (as := (numIt n).map numD) PassesOwn.never rfl (pg_tup rfl (pgs_cons (cb_gname 6) (pgs_cons (cb_gname 7) (pgs_cons (cb_gname 8) (pgs_cons (cb_gname 9) pgs_nil))))) ?_ s2.lo
    (fun B' i σ' H' => (∃ o1 o2 o3 o4, σ' = [some (.ref p), some (.ref b), some (.int n), some (.int 1), some (.int 0), some (.int 1), o1, o2, o3, o4]) ∧ Stp B H B' H') (fun B' H' s3 => ⟨⟨none, none, none, none, rfl⟩, st2.trans s3⟩) (fun B' i σ' H' h => h.2.lo) (fun B' i d v σ' H' lb hd hv hP => ?_) (fun B' σ' H' lb hP => ?_)
  · have it : ∀ {X : Cx} {σ : L2.St} {B : Hp} {e1 e2 e3 e4 : Expr} {x1 : Nat} {pos : Pos} {z : Str} {i j k : Int}, Ev X e1 σ B (.str z) → Ev X e2 σ B (.int i) → Ev X e3 σ B (.int j) → Ev X e4 σ B (.int k) → starEach [e1, e2, e3, e4] X.env = (false, eval e1 X.env) :: starEach [e2, e3, e4] X.env → starEach [e2, e3, e4] X.env = (false, eval e2 X.env) :: starEach [e3, e4] X.env → starEach [e3, e4] X.env = (false, eval e3 X.env) :: starEach [e4] X.env → starEach [e4] X.env = (false, eval e4 X.env) :: starEach [] X.env →
        EvD X (.Tuple [e1, e2, e3, e4] x1 pos) σ B (numD (z, i, j, k)) := fun h1 h2 h3 h4 s1 s2 s3 s4 => ed_tup (ds := [.str _, .int _, .int _, .int _]) (ea_cons (ev_d h1 (.str _)) (ea_cons (ev_d h2 (.int _)) (ea_cons (ev_d h3 (.int _)) (ea_cons (ev_d h4 (.int _)) ea_nil s4) s3) s2) s1) (by simp)
    exact ed_lst (ds := (numIt n).map numD) (ea_cons (it ev_str (ev_name (i := 2) rfl) (ev_name (i := 5) rfl) (ev_glob rfl g4 ⟨t4, rfl⟩) rfl rfl rfl rfl) (ea_cons (it ev_str (ev_name (i := 3) rfl) ev_int (ev_glob rfl g6 ⟨t6, rfl⟩) rfl rfl rfl rfl) (ea_cons (it ev_str (ev_name (i := 4) rfl) ev_int (ev_glob rfl g5 ⟨t5, rfl⟩) rfl rfl rfl rfl) ea_nil))) (by show 3 ≤ 100000; decide)
  · obtain ⟨⟨o1, o2, o3, o4, rfl⟩, st⟩ := hP
    obtain ⟨q, hq, rfl⟩ := List.mem_map.mp (List.mem_of_getElem? hd)
    obtain ⟨a, xs, e1, h1, h2⟩ := dp_tuple hv
    cases h2 with
    | cons d1 h2 => cases h2 with
      | cons d2 h2 => cases h2 with
        | cons d3 h2 => cases h2 with
          | cons d4 h2 =>
            cases h2
            refine ⟨a, _, e1, st.lo.sqT h1, rfl, _, _, rfl, _, _, rfl, _, _, rfl, _, _, rfl, rfl, ?_⟩
            rw [dp_str d1, dp_int d2, dp_int d3, dp_int d4]
            have hok : q.2.2.1 ≤ q.2.1 ∧ q.2.1 ≤ q.2.2.2 := by
              simp only [numIt, List.mem_cons, List.mem_nil_iff, or_false] at hq
              rcases hq with rfl | rfl | rfl
              · exact ⟨n1, n4⟩
              · decide
              · decide
            refine ws_ifN (et_not (k := true) (et_v (ev_call (cal_is_number T) hr (ea_cons (ev_name (i := 7) rfl) (ea_cons (ev_name (i := 8) rfl) (ea_1 (ev_name (i := 9) rfl)))) fun vs B5 _ h => ?_))) st.lo fun H5 s5 => ws_nil ⟨⟨_, _, _, _, rfl⟩, st.trans (.keep st.lo s5)⟩
            obtain ⟨v1, v2, v3, rfl, e1, e2, e3⟩ := holds3 h
            exact ⟨_, _, _, by rw [show v1 = _ from e1, show v2 = _ from e2, show v3 = _ from e3], by rw [decide_eq_true hok]⟩
  · obtain ⟨⟨o1, o2, o3, o4, rfl⟩, st⟩ := hP
    have hp3 := st.same _ _ hp
    refine ws_fld (P := Pd.book K g rows) (ev_meth0 (met_twin T) hr (ev_name (i := 1) rfl) (st.up.ins hb1) (by
      obtain ⟨lo, d, ef, _⟩ := hb2
      rw [ef]
      rfl) fun B4 l4 => ⟨b, g, rows, rfl, hb.le (st.up.trans l4), hg, rfl⟩) st.lo (fun s => (ev_name (i := 0) rfl)) hp3 T.c_Setting T.n_Setting_base (by decide) fun v B4 H4 s4 ⟨bb, ev, hbb⟩ hp4 => ?_
    subst ev
    have t4 := (st.trans s4).x.after (S := [p]) (o := .ins (cSetting K) dx [(("base" : Str), V.ref bb)]) (List.mem_singleton.mpr rfl) hBp hpn
    have hB4 : B4 p = none := t4.non p hBp hpn
    refine ws_fld (P := Pd.d K (.tuple [.int n, .int 1, .int 0])) (ed_tup (ds := [.int n, .int 1, .int 0]) (ea_cons (ev_d (ev_name (i := 2) rfl) (.int _)) (ea_cons (ev_d (ev_name (i := 3) rfl) (.int _)) (ea_1 (ev_d (ev_name (i := 4) rfl) (.int _))))) (by simp)) t4.lo (fun s => (ev_name (i := 0) rfl)) upd_same T.c_Setting T.n_Setting_numbers (by show 1 < 100; decide) fun v B5 H5 s5 hv hp5 => ?_
    have t5 : StpX [p] B H B5 H5 := t4.trans s5.x (fun x hx => by rw [List.mem_singleton.mp hx, upd_same]; simp)
    exact ws_nil (k _ _ _ (t5.after (o := .ins (cSetting K) dx [(("base" : Str), V.ref bb), (("numbers" : Str), v)]) (List.mem_singleton.mpr rfl) hBp hpn) upd_same (t5.non p hBp hpn) ⟨bb, v, rfl, hbb.le s5.up, hv⟩)
def A_hands (K : PySem.W.Frag) : List V → Hp → Pd → Prop := fun vs B R => ∃ p g rows n, vs = [.ref p] ∧ SetAt K B p g rows n ∧ R = Pd.v (.int n)
theorem prp_hands : Prp P w K mg base 1 (cSetting K) "hands" (pureSp (A_hands K)) := by
  obtain ⟨fd, F⟩ := T.d_Setting_hands
  refine ⟨_, _, fd, ["self"], T.c_Setting, T.p_Setting_hands, fn_pure F (N := ["self"]) ⟨rfl, rfl, rfl, by decide +kernel, rfl, by decide +kernel, by decide +kernel⟩ (fun vs B R ⟨_, _, _, _, e, _⟩ => by rw [e]; rfl) ?_, F.bindsN (fun _ _ _ _ _ _ us hl => match us, hl with | [_], _ => rfl)⟩
  intro cdv A0 outer s H0 E vs B H R D hr l ⟨p, g, rows, n, e, ⟨dx, fs, hp, b, vn, ef, hb, hn⟩, eR⟩ q1 q2
  subst e eR
  subst ef
  exact ws_ret (P := Pd.v (.int n)) (ev_sc (d := .int n) (ed_ixT (ev_d (ev_fld (ev_name (i := 0) rfl) hp T.c_Setting T.n_Setting_numbers rfl) hn) ev_int (atI_nat (j := 0) rfl)) rfl) l q1
theorem cal_look_set : C8.Cal P w K mg base 1 "look_at_setting" (pureSp fun vs B R => ∃ p dx fs, vs = [.ref p] ∧ B p = some (.ins (cSetting K) dx fs) ∧ R = Pd.v .non) [] :=
  cal_pure T.d_look_at_setting T.g_look_at_setting ⟨rfl, rfl, rfl, by decide +kernel, rfl, by decide +kernel, by decide +kernel⟩ (fun _ _ _ _ _ _ us hl => match us, hl with | [_], _ => rfl) (N := ["value"]) (ps := ["value"]) (fun vs B R ⟨_, _, _, e, _⟩ => by rw [e]; rfl)
    fun cdv A0 outer s H0 E vs B H R D hr l ⟨p, dx, fs, e, hp, eR⟩ q1 q2 => by
      subst e eR
      exact ws_ifN (et_not (k := true) (et_v (ev_isi T.f_isinstance rfl (ev_name (i := 0) rfl) (ev_glob (v := .ref (cSetting K)) rfl T.g_Setting rfl) (.own _) T.isi_Setting (fun v B1 l1 (e : v = _) H' l2 => by rw [e]; exact T.ty_Setting ((l1.trans l2).ins hp))))) l fun H1 s1 => ws_nil (q2 _ _ _ (.keep l s1) rfl)
end
end K57

set_option Elab.async false
set_option linter.all false
set_option maxRecDepth 100000
set_option maxHeartbeats 4000000
/-! YB: comprehensions with targets of two names; over enumerate; with two fors. -/
namespace K57
open PySem PySem.Spec PyProof.Rows L2
theorem wipe_set' {τ : L2.St} {vs : List Nat} {j : Nat} {o : Option V} (h : j ∈ vs) : wipe (τ.set j o) vs = wipe τ vs := by
  apply List.ext_getElem?
  intro i
  rw [wipe_get, wipe_get]
  by_cases hi : i ∈ vs
  · rw [if_pos hi, if_pos hi]
    by_cases e : j = i
    · subst e
      rw [List.getElem?_set]
      by_cases hl : j < τ.length
      · simp [hl]
      · simp [hl]
    · rw [List.getElem?_set, if_neg e]
  · rw [if_neg hi, if_neg hi, List.getElem?_set, if_neg (fun e => hi (by rw [← e]; exact h))]
theorem wipe_wipe {σ : L2.St} {vs : List Nat} : wipe (wipe σ vs) vs = wipe σ vs := by
  apply List.ext_getElem?
  intro i
  simp only [wipe_get]
  by_cases hi : i ∈ vs
  · simp only [if_pos hi]
    cases σ[i]? <;> rfl
  · simp only [if_neg hi]
def blkBs (N : List Str) (sc scope : Scope) (own : List (Str × Nat)) : Bool :=
  decide N.Nodup && decide (scope.kind = .function) && scope.names.all (fun y => decide (scope.names.lookup y.1 = some y.2)) && own.all (fun p => decide (N[p.2]? = some p.1)) &&
  scope.names.all (fun y => !decide (y.2 = .free) || decide (sc.names.lookup y.1 = some .cell) || decide (sc.names.lookup y.1 = some .free)) &&
  scope.names.all (fun y => (!decide (y.2 = .local) && !decide (y.2 = .cell)) || decide (y.1 ∈ own.map (·.1)) || !decide (y.1 ∈ N)) && own.all (fun p => decide (scope.names.lookup p.1 = some .local) || decide (scope.names.lookup p.1 = some .cell))
theorem blks_of {N : List Str} {sc scope : Scope} {own : List (Str × Nat)} (h : blkBs N sc scope own = true) : N.Nodup ∧ BlkOk N sc scope own ∧ ∀ p ∈ own, N[p.2]? = some p.1 ∧ Loc scope p.1 := by
  unfold blkBs at h
  simp only [Bool.and_eq_true, Bool.or_eq_true, Bool.not_eq_true', decide_eq_true_eq, decide_eq_false_iff_not, List.all_eq_true] at h
  obtain ⟨⟨⟨⟨⟨⟨h1, h2⟩, h3⟩, h4⟩, h5⟩, h6⟩, h7⟩ := h
  refine ⟨h1, ⟨h2, h3, h4, fun y hy e => ?_, fun y hy e => ?_⟩, fun p hp => ⟨h4 p hp, h7 p hp⟩⟩
  · rcases h5 y hy with (q | q) | q
    · exact absurd e q
    · exact .inl q
    · exact .inr q
  · rcases h6 y hy with (q | q) | q
    · rcases e with e | e
      · exact absurd e q.1
      · exact absurd e q.2
    · exact .inl q
    · exact .inr q
section
variable {X : Cx} {elt iter : Expr} {ifs : List Expr} {scope sc : Scope} {N : List Str} {own : List (Str × Nat)} {σ : L2.St} {H : Hp} {pos px py tp : Pos} {kt : Nat} {α : Type} {as : List α} {x y : Str} {j j1 j2 : Nat}
theorem pgBs {p : Str × Nat} (hp : p ∈ own) (eN : X.N = N) (hb : blkBs N sc scope own = true) (s : Shared) (H : Hp) (C : Addr) (cl : List (Str × Addr)) (fp : List Addr) : PG (X.blk s H scope (compEnvC scope cl C X.env) fp) (.Name p.1 px) (gName p.2) := by
  obtain ⟨h1, h2, h3⟩ := blks_of hb
  obtain ⟨h4, h5⟩ := h3 p hp
  subst eN
  rcases h5 with q | q
  · exact pg_name h1 h4 (.inl (lookup_relabel_local q)) (.inr (lookup_relabel_local q))
  · exact pg_name h1 h4 (.inr (lookup_relabel_cell q)) (.inl (by show (scope.names.lookup p.1 == some .cell) = true; rw [q]; rfl))
theorem pg2 (eN : X.N = N) (hc : X.calm = true) (hb : blkBs N sc scope [(x, j1), (y, j2)] = true) (s : Shared) (H : Hp) (C : Addr) (cl : List (Str × Addr)) (fp : List Addr) :
    PG (X.blk s H scope (compEnvC scope cl C X.env) fp) (.Tuple [.Name x px, .Name y py] kt tp) (gTup X.K 2 (gCons (gName j1) (gCons (gName j2) gNil))) :=
  pg_tup (X := X.blk s H scope (compEnvC scope cl C X.env) fp) hc (pgs_cons (pgBs (p := (x, j1)) (by simp) eN hb s H C cl fp) (pgs_cons (pgBs (p := (y, j2)) (by simp) eN hb s H C cl fp) pgs_nil))
/-- one turn, the target bound already -/
theorem turnG {F : α → Bool} {G : α → PyData} {B H1 H' : Hp} {D : Addr} {i : Nat} {a : α} {σ' : L2.St} (hD : H1 D = none) (ha : as[i]? = some a) (ac : Ac X.K B H1 D (sofar as F G i) H') (hi : i < 100000)
    (ht : ∀ (s : Shared) (H0 : Hp) (C : Addr) (cl : List (Str × Addr)) (fp : List Addr), EvI (Bk X scope s H0 C cl fp) ifs σ' B (F a)) (he : F a = true → ∀ (s : Shared) (H0 : Hp) (C : Addr) (cl : List (Str × Addr)) (fp : List Addr), EvD (Bk X scope s H0 C cl fp) elt σ' B (G a)) :
    tI X scope ifs σ' H' fun b H3 => if b = true then tX X scope elt σ' H3 fun y H4 => ∃ acc, H4 D = some (.lst acc) ∧ acc.length < sizeLine ∧ Ac X.K B H1 D (sofar as F G (i + 1)) (upd H4 D (.lst (acc ++ [y]))) else Ac X.K B H1 D (sofar as F G (i + 1)) H3 := by
  intro s H0 C cl fp
  refine WI.mono (ht s H0 C cl fp H' ac.le) fun b H3 ⟨e1, s1⟩ => ?_
  subst e1
  cases hf : F a with
  | true =>
    rw [if_pos rfl, sofar_succ ha, if_pos hf]
    intro s H0 C cl fp
    refine (he hf s H0 C cl fp H3 (ac.step s1).le).mono fun y H4 ⟨B2, s2, p2⟩ => ?_
    exact (ac.step s1).app hD s2 p2 (Nat.lt_of_le_of_lt (sofar_len i) hi)
  | false =>
    rw [if_neg Bool.false_ne_true, sofar_succ ha, hf, if_neg Bool.false_ne_true]
    exact ac.step s1
abbrev HT2 (X : Cx) (scope : Scope) (ifs : List Expr) (σ : L2.St) (j1 j2 : Nat) (H : Hp) (as : List α) (φ1 φ2 : α → PyData) (F : α → Bool) : Prop :=
  ∀ a ∈ as, ∀ v1 v2 B, Le H B → Dp X.K B v1 (φ1 a) → Dp X.K B v2 (φ2 a) → ∀ (s : Shared) (H0 : Hp) (C : Addr) (cl : List (Str × Addr)) (fp : List Addr), EvI (Bk X scope s H0 C cl fp) ifs (((wipe σ [j1, j2]).set j1 (some v1)).set j2 (some v2)) B (F a)
abbrev HE2 (X : Cx) (scope : Scope) (elt : Expr) (σ : L2.St) (j1 j2 : Nat) (H : Hp) (as : List α) (φ1 φ2 : α → PyData) (F : α → Bool) (G : α → PyData) : Prop :=
  ∀ a ∈ as, F a = true → ∀ v1 v2 B, Le H B → Dp X.K B v1 (φ1 a) → Dp X.K B v2 (φ2 a) → ∀ (s : Shared) (H0 : Hp) (C : Addr) (cl : List (Str × Addr)) (fp : List Addr), EvD (Bk X scope s H0 C cl fp) elt (((wipe σ [j1, j2]).set j1 (some v1)).set j2 (some v2)) B (G a)
theorem wipe2 {v1 v2 : V} : wipe (((wipe σ [j1, j2]).set j1 (some v1)).set j2 (some v2)) [j1, j2] = wipe σ [j1, j2] := by
  rw [wipe_set' (by simp), wipe_set' (by simp), wipe_wipe]
/-- [.. for (x, y) in tuple of pairs] -/
theorem gen_lcP {φ1 φ2 : α → PyData} {F : α → Bool} {G : α → PyData} (eN : X.N = N) (eS : X.env.scope = sc) (hc : X.calm = true) (hb : blkBs N sc scope [(x, j1), (y, j2)] = true) (hi : EvD X iter σ H (.tuple (as.map fun a => .tuple [φ1 a, φ2 a]))) (ht : HT2 X scope ifs σ j1 j2 H as φ1 φ2 F) (he : HE2 X scope elt σ j1 j2 H as φ1 φ2 F G) (hl : as.length ≤ 100000)
    (hs : ∀ x, foldedSetIterable iter X.env x = pure x) : EvL X (.ListComp elt [⟨.Tuple [.Name x px, .Name y py] kt tp, iter, ifs, 0⟩] scope pos) σ H ((as.filter F).map G) := by
  obtain ⟨h1, h2, h3⟩ := blks_of hb
  refine .of (pe_lc (own := [(x, j1), (y, j2)]) hc (by rw [eN]; exact h1) (pi_tup pe_w) (by rw [eN, eS]; exact h2) (pg2 eN hc hb) pts_tI pe_tX hs) fun H1 l => ?_
  refine (hi H1 l).mono fun v H2 ⟨B, s, p⟩ => ?_
  obtain ⟨a, xs, e1, g1, g2⟩ := dp_tuple p
  have hlen : xs.length = as.length := by rw [dpa_len g2, List.length_map]
  refine ⟨a, e1, ⟨xs, s.lo.sqT g1⟩, fun D hD => lc_it walk_tup (fun i H' => Ac X.K B H2 D (sofar as F G i) H') (Ac.start s.lo hD) (fun i H' _ ac => ac.le.sqT g1) (fun i z H' H'' hi ac ⟨e2, hx⟩ => ?_) (fun H' ac => ?_)⟩
  · subst e2
    obtain ⟨d, hd, hp⟩ := dpa_get g2 hx
    rw [List.getElem?_map] at hd
    obtain ⟨w, hw, rfl⟩ := Option.map_eq_some_iff.mp hd
    obtain ⟨b, ys, ez, k1, k2⟩ := dp_tuple hp
    cases k2 with
    | cons d1 k2 => cases k2 with
      | cons d2 k2 =>
        cases k2
        rename_i v1 v2
        have hm : w ∈ as := List.mem_of_getElem? hw
        exact ⟨b, [v1, v2], ez, ac.le.sqT k1, rfl, v1, [v2], rfl, v2, [], rfl, rfl, wipe2, turnG hD hw ac (by omega) (ht w hm v1 v2 B s.up d1 d2) (fun hF => he w hm hF v1 v2 B s.up d1 d2)⟩
  · rw [hlen, sofar_all] at ac
    obtain ⟨B2, s2, p2⟩ := ac.fin hD
    exact ⟨B2, s.trans s2, p2⟩
/-- [.. for (x, y) in enumerate(list)] -/
theorem gen_lcE {e0 : Expr} {pf pc : Pos} {φ : α → PyData} {F : α × Nat → Bool} {G : α × Nat → PyData} (eN : X.N = N) (eS : X.env.scope = sc) (hc : X.calm = true) (hb : blkBs N sc scope [(x, j1), (y, j2)] = true) (hm : X.mg "enumerate" = none) (hi : EvD X e0 σ H (.list (as.map φ)))
    (ht : HT2 X scope ifs σ j1 j2 H as.zipIdx (fun q => .int q.2) (fun q => φ q.1) F) (he : HE2 X scope elt σ j1 j2 H as.zipIdx (fun q => .int q.2) (fun q => φ q.1) F G) (hl : as.length ≤ 100000) (hg : Gl X "enumerate") (hst : starEach [e0] X.env = [(false, eval e0 X.env)]) (hst2 : starEach [e0] X.env = (false, eval e0 X.env) :: starEach [] X.env)
    (hs : ∀ x, foldedSetIterable (.Call (.Name "enumerate" pf) [e0] [] pc) X.env x = pure x) : EvL X (.ListComp elt [⟨.Tuple [.Name x px, .Name y py] kt tp, .Call (.Name "enumerate" pf) [e0] [] pc, ifs, 0⟩] scope pos) σ H ((as.zipIdx.filter F).map G) := by
  obtain ⟨h1, h2, h3⟩ := blks_of hb
  refine .of (pe_lc (own := [(x, j1), (y, j2)]) hc (by rw [eN]; exact h1) (pi_enum hg hm (pa_cons pe_w pa_nil hst2) hst) (by rw [eN, eS]; exact h2) (pg2 eN hc hb) pts_tI pe_tX hs) fun H1 l => ?_
  refine (hi H1 l).mono fun v H2 ⟨B, s, p⟩ => ?_
  obtain ⟨a, xs, e1, g1, g2⟩ := dp_list p
  have hlen : xs.length = as.length := by rw [dpa_len g2, List.length_map]
  have hzl : as.zipIdx.length = as.length := List.length_zipIdx
  refine ⟨a, xs, by rw [e1], s.lo.sqL g1, fun D hD => lc_it walk_enum (fun i H' => Ac X.K B H2 D (sofar as.zipIdx F G i) H') (Ac.start s.lo hD) (fun i H' _ ac => ac.le.sqL g1) (fun i z H' H'' hi ac hz => ?_) (fun H' ac => ?_)⟩
  · obtain ⟨Tn, v1, v2, ez, hT, e2, ei, hx⟩ := hz
    subst ez e2
    have ei' : v1 = .int (i : Nat) := (Option.some.inj ei).symm
    subst ei'
    obtain ⟨d, hd, hp⟩ := dpa_get g2 hx
    rw [List.getElem?_map] at hd
    obtain ⟨w, hw, rfl⟩ := Option.map_eq_some_iff.mp hd
    have hw2 : as.zipIdx[i]? = some (w, i) := by
      rw [List.getElem?_zipIdx, hw]
      simp
    have hmz : (w, i) ∈ as.zipIdx := List.mem_of_getElem? hw2
    have ac2 := ac.step (same_new (o := .tup [.int (i : Nat), v2]) hT)
    exact ⟨Tn, [.int (i : Nat), v2], rfl, SqT.of upd_same, rfl, _, [v2], rfl, v2, [], rfl, rfl, wipe2, turnG hD hw2 ac2 (by omega) (ht (w, i) hmz _ v2 B s.up (.int _) hp) (fun hF => he (w, i) hmz hF _ v2 B s.up (.int _) hp)⟩
  · have ac' : Ac X.K B H2 D (sofar as.zipIdx F G as.zipIdx.length) H' := by rw [hzl, ← hlen]; exact ac
    rw [sofar_all] at ac'
    obtain ⟨B2, s2, p2⟩ := ac'.fin hD
    exact ⟨B2, s.trans s2, p2⟩
end
end K57

set_option Elab.async false
set_option linter.all false
set_option maxRecDepth 100000
set_option maxHeartbeats 4000000
/-! YC: netplays.py, the parts that read. -/
namespace K57
open PySem PySem.Spec PyProof.Rows L2
abbrev Stk : Type := List (Str × Int)
def pairD (q : Str × Int) : PyData := .tuple [.str q.1, .int q.2]
def stackD (st : Stk) : PyData := .tuple (st.map pairD)
def lockD : Option Nat → PyData
  | none => .none
  | some k => .int k
def lockV : Option Nat → V
  | none => .non
  | some k => .int k
theorem dp_lock {K : PySem.W.Frag} {H : Hp} {v : V} {o : Option Nat} (h : Dp K H v (lockD o)) : v = lockV o := by
  cases o with
  | none => exact dp_non h
  | some k => exact dp_int h
theorem dpa_ints_inv {K : PySem.W.Frag} {H : Hp} : ∀ {ks : List Nat} {vs : List V}, DpAll K H vs (ks.map fun (k : Nat) => PyData.int (k : Int)) → vs = ks.map fun (k : Nat) => V.int (k : Int)
  | [], _, h => by cases h; rfl
  | k :: r, _, h => by
    cases h with
    | cons a t =>
      rw [List.map_cons, dp_int a, dpa_ints_inv t]
theorem inV_int (k : Nat) : ∀ ks : List Nat, inV (.int (k : Int)) (ks.map fun (k : Nat) => V.int (k : Int)) = decide (k ∈ ks)
  | [] => by simp [inV]
  | m :: r => by
    have ih := inV_int k r
    unfold inV at ih ⊢
    rw [List.map_cons, List.any_cons, ih]
    show (((m : Int) == (k : Int)) || _) = _
    by_cases h : k = m
    · subst h
      simp
    · have h2 : ((m : Int) == (k : Int)) = false := beq_eq_false_iff_ne.mpr (by omega)
      rw [h2]
      simp [h]
theorem flat_int : ∀ ks : List Nat, (ks.map fun (k : Nat) => V.int (k : Int)).all flatV = true
  | [] => rfl
  | _ :: r => by
    rw [List.map_cons, List.all_cons, flat_int r]
    rfl
theorem layI (ks : List Nat) : PyData.canLayAll0 (ks.map fun (k : Nat) => PyData.int (k : Int)) = true ∧ PyData.depthAll (ks.map fun (k : Nat) => PyData.int (k : Int)) = 0 := by
  induction ks with
  | nil => exact ⟨rfl, rfl⟩
  | cons z r ih =>
    rw [List.map_cons]
    exact ⟨by show (true && _) = true; rw [ih.1]; rfl, by show max 0 _ = 0; rw [ih.2]; rfl⟩
theorem shapedI (ks : List Nat) : SeqAt.shaped (.list (ks.map fun (k : Nat) => PyData.int (k : Int))) = true := by
  obtain ⟨h1, h2⟩ := layI ks
  unfold SeqAt.shaped
  rw [Bool.and_eq_true]
  refine ⟨h1, decide_eq_true ?_⟩
  show PyData.depthAll _ + 1 ≤ 64
  omega
theorem layP {st : Stk} (h : ∀ q ∈ st, okName q.1 = true) : PyData.canLayAll0 (st.map pairD) = true ∧ PyData.depthAll (st.map pairD) ≤ 1 := by
  induction st with
  | nil => exact ⟨rfl, Nat.zero_le _⟩
  | cons z r ih =>
    obtain ⟨i1, i2⟩ := ih fun y hy => h y (List.mem_cons_of_mem _ hy)
    have hz := h z (List.mem_cons_self ..)
    unfold okName at hz
    simp only [Bool.and_eq_true] at hz
    rw [List.map_cons]
    refine ⟨?_, ?_⟩
    · show (PyData.canLay0 (pairD z) && _) = true
      rw [i1, Bool.and_true]
      show (PyData.canLay0 (.str z.1) && (true && true)) = true
      simp only [Bool.and_true]
      exact hz.2
    · show max (PyData.depth (pairD z)) _ ≤ 1
      have : PyData.depth (pairD z) = 1 := rfl
      omega
theorem shapedP {st : Stk} (h : ∀ q ∈ st, okName q.1 = true) : SeqAt.shaped (stackD st) = true := by
  obtain ⟨h1, h2⟩ := layP h
  unfold SeqAt.shaped
  rw [Bool.and_eq_true]
  refine ⟨h1, decide_eq_true ?_⟩
  show PyData.depthAll _ + 1 ≤ 64
  omega
/-! ### the play, as it stands -/
def playF (q : Addr) (one : Bool) (vl : V) (tl pl : Addr) (vb : V) : List (Str × V) := [(("net" : Str), V.ref q), (("is_one" : Str), V.bl one), (("lock" : Str), vl), (("there" : Str), V.ref tl), (("people" : Str), V.ref pl), (("bad" : Str), vb)]
/-- what the play holds: the names that are there, the lock, the stacks, the fault -/
structure Ply where
  there : List Str
  lock : Option Nat
  people : List Stk
  bad : PyData
def PlayAt (K : PySem.W.Frag) (B : Hp) (p : Addr) (rows : List (Str × List Str)) (one : Bool) (s : Ply) : Prop := ∃ dx q tl pl vb ys, B p = some (.ins (cNetPlay K) dx (playF q one (lockV s.lock) tl pl vb)) ∧ NetAt K B q rows ∧ B tl = some (.lst (s.there.map .str)) ∧ B pl = some (.lst ys) ∧ DpAll K B ys (s.people.map stackD) ∧ Dp K B vb s.bad
theorem PlayAt.le {K : PySem.W.Frag} {H H' : Hp} {p : Addr} {rows : List (Str × List Str)} {one : Bool} {s : Ply} (e : Le H H') (h : PlayAt K H p rows one s) : PlayAt K H' p rows one s :=
  let ⟨dx, q, tl, pl, vb, ys, h1, h2, h3, h4, h5, h6⟩ := h
  ⟨dx, q, tl, pl, vb, ys, e.ins h1, h2.le e, e.lst h3, e.lst h4, e.dpAll h5, e.dp h6⟩
/-- names of the stacks are names of the net -/
def OkPpl (rows : List (Str × List Str)) (people : List Stk) : Prop := ∀ st ∈ people, ∀ q ∈ st, q.1 ∈ keysN rows
def ownersM (people : List Stk) (name : Str) : List Nat := (people.zipIdx.filter fun q => q.1.any fun e => decide (e.1 = name) && decide (0 ≤ e.2)).map (·.2)
section
variable {X : Cx} {a b : Expr} {σ : L2.St} {H : Hp} {pos : Pos}
theorem ev_own {A : List V → Hp → Pd → Prop} {k j : Nat} {C g q dx : Addr} {fd : FuncData} {ps : List Str} {fs : List (Str × V)} {P R : Pd} (c : SubO X.K C g "__getitem__") (F : FnOk X.prog X.w X.K X.mg X.base CX0 k g fd ps (pureSp A)) (hr : Room j X.A) (hb : Binds X.K fd ps []) (ha : Ev X a σ H (.ref q)) (hq : H q = some (.ins C dx fs)) (hi : EvP X b σ H P)
    (h : ∀ v B, Le H B → P.p v B → A [.ref q, v] B R) (hk : k + 1 ≤ j := by decide) (hsl : ∀ ov iv, subscripted b true ov iv = runValue (.builtin "lifetime.subscript" ⟨[ov, iv], []⟩) := by intro _ _; with_unfolding_all rfl) : EvP X (.Subscript a b pos) σ H R :=
  .of (pe_own c F (hr.mono hk) hb pe_w pe_w hsl) fun H1 l => (ha H1 l).mono fun v1 H2 ⟨B1, s1, (p1 : v1 = .ref q)⟩ => ((hi.le s1.up) H2 s1.lo).mono fun v2 H3 ⟨B2, s2, p2⟩ => by
    subst p1
    exact ⟨q, dx, fs, rfl, s2.same _ _ (s1.same _ _ (l.ins hq)), B2, R, s2.lo, h v2 B2 (s1.up.trans s2.up) p2, fun v B3 H4 s4 p => ⟨B3, (s1.trans s2).trans s4, p⟩⟩
end
section
variable {P : Program} {w : World} {K : PySem.W.Frag} {mg : Str → Option Value} {base : Heap} {N : List Str} {qual : Str} {sc scope : Scope} {f : Addr} {cdv : Value} {A0 : Around} {outer : List Env} {s0 : Shared} {H0 : Hp} {E0 : XK} {e : Expr} {σ : L2.St} {B H : Hp} {pos px py tp : Pos} {D : Ends} {rest : List Stmt} {x y : Str} {kt : Nat} {d1 d2 : PyData}
/-- x, y = e -/
theorem cb_set2 (i j : Nat) (h : EvD (Cb P w K mg base N qual sc f cdv A0 outer s0 H0 E0) e σ B (.tuple [d1, d2])) (l : Le B H) (k : ∀ v1 v2 B' H', Stp B H B' H' → Dp K B' v1 d1 → Dp K B' v2 d2 → WSs (Cb P w K mg base N qual sc f cdv A0 outer s0 H0 E0) rest D ((σ.set i (some v1)).set j (some v2)) H') (nd : decide N.Nodup = true := by rfl) (hi : N[i]? = some x := by rfl) (hj : N[j]? = some y := by rfl)
    (hx : Loc sc x := by first | exact Or.inl rfl | exact Or.inr rfl) (hy : Loc sc y := by first | exact Or.inl rfl | exact Or.inr rfl) (hfx : (Cb P w K mg base N qual sc f cdv A0 outer s0 H0 E0).fn x = true ∨ sc.names.lookup x = some .local := by first | exact .inl rfl | exact .inr rfl) (hfy : (Cb P w K mg base N qual sc f cdv A0 outer s0 H0 E0).fn y = true ∨ sc.names.lookup y = some .local := by first | exact .inl rfl | exact .inr rfl)
    (hs : swapsWithSole [.Tuple [.Name x px, .Name y py] kt tp] e pos.line (Cb P w K mg base N qual sc f cdv A0 outer s0 H0 E0).env = pure false := by rfl) (hw : swappedStores [.Tuple [.Name x px, .Name y py] kt tp] e (Cb P w K mg base N qual sc f cdv A0 outer s0 H0 E0).env = pure none := by rfl) : WSs (Cb P w K mg base N qual sc f cdv A0 outer s0 H0 E0) (.Assign [.Tuple [.Name x px, .Name y py] kt tp] e pos :: rest) D σ H :=
  ws_cons (ps_asg (pe_w (e := e)) (pg_tup rfl (pgs_cons (cb_gname i nd hi hx hfx) (pgs_cons (cb_gname j nd hj hy hfy) pgs_nil))) hs hw) ((h H l).mono fun v H1 ⟨B1, s1, p1⟩ => by
    obtain ⟨a, xs, e1, g1, g2⟩ := dp_tuple p1
    cases g2 with
    | cons q1 g2 => cases g2 with
      | cons q2 g2 =>
        cases g2
        exact ⟨a, _, e1, s1.lo.sqT g1, rfl, _, _, rfl, _, _, rfl, rfl, k _ _ B1 H1 s1 q1 q2⟩)
end
section
variable {P : Program} {w : World} {K : PySem.W.Frag} {mg : Str → Option Value} {base : Heap} (T : Tx P K mg)
include T
def A_owners (K : PySem.W.Frag) : List V → Hp → Pd → Prop := fun vs B R => ∃ p rows one s name, vs = [.ref p, .str name] ∧ PlayAt K B p rows one s ∧ OkNet rows ∧ OkPpl rows s.people ∧ s.people.length ≤ 4 ∧ (∀ st ∈ s.people, st.length ≤ 1000) ∧ R = Pd.dl K ((ownersM s.people name).map fun (k : Nat) => .int (k : Int))
theorem met_owners : C8.Met P w K mg base 1 (cNetPlay K) "owners" (pureSp (A_owners K)) [] :=
  met_pure T.d_NetPlay_owners T.c_NetPlay T.m_NetPlay_owners ⟨rfl, rfl, rfl, by decide +kernel, rfl, by decide +kernel, by decide +kernel⟩ (fun _ _ _ _ _ _ us hl => match us, hl with | [_, _], _ => rfl) (N := ["self", "name", "k", "stack", "one", "at"]) (ps := ["self", "name"]) (fun vs B R ⟨_, _, _, _, _, e, _⟩ => by rw [e]; rfl)
    fun cdv A0 outer s H0 E vs B H R D hr l ⟨p, rows, one, s1, name, e, ⟨dx, q, tl, pl, vb, ys, h1, h2, h3, h4, h5, h6⟩, ok, okp, l4, lst, eR⟩ q1 q2 => by
      subst e
      subst eR
      refine ws_ret (P := Pd.dl K ((ownersM s1.people name).map fun (k : Nat) => .int (k : Int))) ?_ l q1
      unfold ownersM
      rw [List.map_map]
      refine gen_lcE (j1 := 2) (j2 := 3) (φ := stackD) (F := fun q => q.1.any fun e => decide (e.1 = name) && decide (0 ≤ e.2)) (G := fun q => .int (q.2 : Int)) rfl rfl rfl rfl T.f_enumerate (ev_d (ev_fld (ev_name (i := 0) rfl) h1 T.c_NetPlay T.n_NetPlay_people rfl) (.lst (.of h4) h5)) (fun a ha v1 v2 B1 lb hp1 hp2 s H1 C cl fp => ei_one ?_) (fun a ha hF v1 v2 B1 lb hp1 hp2 s H1 C cl fp => ev_d (ev_name (i := 2) rfl) hp1) (by omega) rfl rfl rfl (by intro _; rfl)
      have hst : a.1 ∈ s1.people := by
        obtain ⟨x, i⟩ := a
        exact (List.mem_zipIdx' ha).2 ▸ List.getElem_mem _
      refine et_ned (ru64 hr) (d1 := .list ((a.1.filter fun e => decide (e.1 = name) && decide (0 ≤ e.2)).map fun e => .str e.1)) (d2 := .list []) (EvL.toD ?_) ed_nilL ?_ rfl ?_
      · refine gen_lcP (j1 := 4) (j2 := 5) (as := a.1) (φ1 := fun e : Str × Int => .str e.1) (φ2 := fun e : Str × Int => .int e.2) (F := fun e : Str × Int => decide (e.1 = name) && decide (0 ≤ e.2)) (G := fun e : Str × Int => .str e.1) rfl rfl rfl rfl (ev_d (ev_name (i := 3) rfl) hp2) (fun e he w1 w2 B2 lb2 hw1 hw2 s H1 C cl fp => ei_one ?_) (fun e he hF w1 w2 B2 lb2 hw1 hw2 s H1 C cl fp => ev_d (ev_name (i := 4) rfl) hw1) (by have := lst _ hst; omega) (by intro _; rfl)
        rw [dp_str hw1, dp_int hw2]
        exact et_and2 (et_eqs (ev_name (i := 4) rfl) (ev_name (i := 1) rfl) rfl (by simp)) fun _ => et_ge (ev_name (i := 5) rfl) ev_int rfl
      · have e : ((a.1.filter fun e => decide (e.1 = name) && decide (0 ≤ e.2)).map fun e => PyData.str e.1) = ((a.1.filter fun e => decide (e.1 = name) && decide (0 ≤ e.2)).map (·.1)).map .str := by rw [List.map_map]; rfl
        rw [e]
        refine shapedL fun z hz => ?_
        obtain ⟨q, hq, rfl⟩ := List.mem_map.mp hz
        exact ok.nm _ (okp _ hst q (List.mem_filter.mp hq).1)
      · rw [eqv_nil, List.isEmpty_map]
        rw [Bool.eq_iff_iff]
        simp [List.isEmpty_iff, List.filter_eq_nil_iff, List.any_eq_true]
end
end K57

set_option Elab.async false
set_option linter.all false
set_option maxRecDepth 100000
set_option maxHeartbeats 4000000
/-! YD: netplays.py, the deeds, the state. -/
namespace K57
open PySem PySem.Spec PyProof.Rows L2
def lockOther : Option Nat → Nat → Bool
  | none, _ => false
  | some j, k => !decide (j = k)
def wantedM (one : Bool) (s : Ply) (k : Nat) (name : Str) : List Str :=
  if name ∈ s.there then ["take"] else if k ∈ ownersM s.people name then ["ask"] else if (!(ownersM s.people name).isEmpty || (one && lockOther s.lock k)) = true then [] else ["own"]
def handM (rows : List (Str × List Str)) (one : Bool) (s : Ply) (k : Nat) : List Str :=
  match (s.people.getD k []).getLast? with
  | none => (keysN rows).filter fun n => !decide (n ∈ s.there)
  | some q => if q.2 < 0 then wantedM one s k q.1 else if q.2 < ((lookN rows q.1).length : Int) then ["need"] else ["make"]
structure OkPly (rows : List (Str × List Str)) (s : Ply) : Prop where
  net : OkNet rows
  ppl : OkPpl rows s.people
  l4 : s.people.length ≤ 4
  len : ∀ st ∈ s.people, st.length ≤ 1000
  th : s.there.length < 64
  thn : ∀ n ∈ s.there, n ∈ keysN rows
theorem hP_I {K : PySem.W.Frag} {ks : List Nat} {H : Hp} : ∀ v H', Le H H' → (Pd.dl K (ks.map fun (k : Nat) => .int (k : Int))).p v H' → ∃ q, v = .ref q ∧ (SqL K H' q (ks.map fun (k : Nat) => V.int (k : Int)) ∨ SqT K H' q (ks.map fun (k : Nat) => V.int (k : Int))) := fun v H' _ ⟨a, xs, e, h1, h2⟩ => by
  rw [dpa_ints_inv h2] at h1
  exact ⟨a, e, .inl (.of h1)⟩
theorem dp_map_str {K : PySem.W.Frag} {H : Hp} {tl : Addr} {th : List Str} (h : H tl = some (.lst (th.map .str))) : Dp K H (.ref tl) (.list (th.map .str)) := .lst (.of h) (dpa_strs th)
section
variable {P : Program} {w : World} {K : PySem.W.Frag} {mg : Str → Option Value} {base : Heap} (T : Tx P K mg)
include T
def A_wanted (K : PySem.W.Frag) : List V → Hp → Pd → Prop := fun vs B R => ∃ p rows one s k name, vs = [.ref p, .int (k : Nat), .str name] ∧ PlayAt K B p rows one s ∧ OkPly rows s ∧ R = Pd.d K (.list ((wantedM one s k name).map .str))
theorem met_wanted : C8.Met P w K mg base 2 (cNetPlay K) "wanted_deeds" (pureSp (A_wanted K)) [] :=
  met_pure T.d_NetPlay_wanted_deeds T.c_NetPlay T.m_NetPlay_wanted_deeds ⟨rfl, rfl, rfl, by decide +kernel, rfl, by decide +kernel, by decide +kernel⟩ (fun _ _ _ _ _ _ us hl => match us, hl with | [_, _, _], _ => rfl) (N := ["self", "k", "name"]) (ps := ["self", "k", "name"]) (fun vs B R ⟨_, _, _, _, _, _, e, _⟩ => by rw [e]; rfl)
    fun cdv A0 outer s H0 E vs B H R D hr l ⟨p, rows, one, s1, kk, name, e, hpl, ok, eR⟩ q1 q2 => by
      subst e
      subst eR
      have ⟨dx, q, tl, pl, vb, ys, h1, h2, h3, h4, h5, h6⟩ := hpl
      have oA : ∀ vs B2, Le B B2 → Holds [Pd.v (.str name)] vs B2 → A_owners K (.ref p :: vs) B2 (Pd.dl K ((ownersM s1.people name).map fun (k : Nat) => .int (k : Int))) := fun vs B2 l2 h => by
        obtain ⟨v, rfl, e⟩ := holds1 h
        exact ⟨p, rows, one, s1, name, by rw [show v = _ from e], hpl.le l2, ok.net, ok.ppl, ok.l4, ok.len, rfl⟩
      have fin : ∀ {H1 : Hp} {z : List Str}, Same H H1 → wantedM one s1 kk name = z → ∀ v B' H', Stp B H1 B' H' → Dp K B' v (.list (z.map .str)) → D.rt v H' := fun s e v B' H' st p => q1 v B' H' ((Stp.keep l s).trans st) (by
        show Dp K B' v (.list ((wantedM one s1 kk name).map .str))
        rw [e]
        exact p)
      refine ws_if (k := decide (name ∈ s1.there)) (et_inL (ev_name (i := 2) rfl) (ev_d (ev_fld (ev_name (i := 0) rfl) h1 T.c_NetPlay T.n_NetPlay_there rfl) (dp_map_str h3)) rfl) l (fun e1 H1 t1 => ?_) (fun e1 H1 t1 => ?_)
      · exact ws_ret (P := Pd.d K (.list ((["take"] : List Str).map .str))) (ed_lst (ds := [.str "take"]) (ea_1 ed_str) (by decide)) (l.trans (le_of t1)) (fin t1 (by unfold wantedM; rw [if_pos (of_decide_eq_true e1)]))
      refine ws_nil (ws_if (k := decide (kk ∈ ownersM s1.people name)) (et_in (ev_name (i := 1) rfl) (ev_meth (met_owners T) hr (ev_name (i := 0) rfl) h1 rfl (ea_1 (ev_name (i := 2) rfl)) oA) hP_I rfl (flat_int _) (inV_int kk _)) (l.trans (le_of t1)) (fun e2 H2 t2 => ?_) (fun e2 H2 t2 => ?_))
      · exact ws_ret (P := Pd.d K (.list ((["ask"] : List Str).map .str))) (ed_lst (ds := [.str "ask"]) (ea_1 ed_str) (by decide)) (l.trans (le_of (t1.trans t2))) (fin (t1.trans t2) (by unfold wantedM; rw [if_neg (of_decide_eq_false e1), if_pos (of_decide_eq_true e2)]))
      refine ws_nil (ws_if (k := !(ownersM s1.people name).isEmpty || (one && lockOther s1.lock kk)) ?_ (l.trans (le_of (t1.trans t2))) (fun e3 H3 t3 => ?_) (fun e3 H3 t3 => ?_))
      · refine et_or2 (et_ned (ru64 hr) (EvL.toD (ev_meth (met_owners T) hr (ev_name (i := 0) rfl) h1 rfl (ea_1 (ev_name (i := 2) rfl)) oA)) ed_nilL (shapedI _) rfl (by rw [eqv_nil, List.isEmpty_map])) fun _ => et_and2 (et_v (ev_fld (ev_name (i := 0) rfl) h1 T.c_NetPlay T.n_NetPlay_is_one rfl)) fun _ => ?_
        refine et_nin (x := lockV s1.lock) (ss := [.non, .int (kk : Int)]) (ev_fld (ev_name (i := 0) rfl) h1 T.c_NetPlay T.n_NetPlay_lock rfl) (P2 := Pd.d K (.tuple [.none, .int (kk : Int)])) (ed_tup (ds := [.none, .int (kk : Int)]) (ea_cons ed_none (ea_1 (ev_d (ev_name (i := 1) rfl) (.int _)))) (by simp)) (fun v H' _ p => ?_) (by cases s1.lock <;> rfl) rfl ?_
        · obtain ⟨a, xs, e, g1, g2⟩ := dp_tuple p
          cases g2 with
          | cons d1 g2 => cases g2 with
            | cons d2 g2 =>
              cases g2
              rw [dp_non d1, dp_int d2] at g1
              exact ⟨a, e, .inr g1⟩
        · cases s1.lock with
          | none => rfl
          | some j =>
            show (!(false || (((kk : Int) == (j : Int)) || false))) = !decide (j = kk)
            by_cases h : j = kk
            · subst h
              simp
            · have h2 : ((kk : Int) == (j : Int)) = false := beq_eq_false_iff_ne.mpr (by omega)
              rw [h2]
              simp [h]
      · exact ws_ret (P := Pd.d K (.list (([] : List Str).map .str))) ed_nilL (l.trans (le_of ((t1.trans t2).trans t3))) (fin ((t1.trans t2).trans t3) (by unfold wantedM; rw [if_neg (of_decide_eq_false e1), if_neg (of_decide_eq_false e2), if_pos e3]))
      · refine ws_nil (ws_ret (P := Pd.d K (.list ((["own"] : List Str).map .str))) (ed_lst (ds := [.str "own"]) (ea_1 ed_str) (by decide)) (l.trans (le_of ((t1.trans t2).trans t3))) (fin ((t1.trans t2).trans t3) ?_))
        unfold wantedM
        rw [if_neg (of_decide_eq_false e1), if_neg (of_decide_eq_false e2), if_neg (by rw [e3]; exact Bool.false_ne_true)]
def A_hand (K : PySem.W.Frag) : List V → Hp → Pd → Prop := fun vs B R => ∃ p rows one s k, vs = [.ref p, .int (k : Nat)] ∧ PlayAt K B p rows one s ∧ OkPly rows s ∧ k < s.people.length ∧ R = Pd.d K (.list ((handM rows one s k).map .str))
theorem met_hand : C8.Met P w K mg base 4 (cNetPlay K) "hand_deeds" (pureSp (A_hand K)) [] :=
  met_pure T.d_NetPlay_hand_deeds T.c_NetPlay T.m_NetPlay_hand_deeds ⟨rfl, rfl, rfl, by decide +kernel, rfl, by decide +kernel, by decide +kernel⟩ (fun _ _ _ _ _ _ us hl => match us, hl with | [_, _], _ => rfl) (N := ["self", "k", "stack", "name", "at"]) (ps := ["self", "k"]) (fun vs B R ⟨_, _, _, _, _, e, _⟩ => by rw [e]; rfl)
    fun cdv A0 outer s H0 E vs B H R D hr l ⟨p, rows, one, s1, kk, e, hpl, ok, hk, eR⟩ q1 q2 => by
      subst e
      subst eR
      have ⟨dx, q, tl, pl, vb, ys, h1, h2, h3, h4, h5, h6⟩ := hpl
      obtain ⟨st, hst⟩ : ∃ st, s1.people[kk]? = some st := ⟨_, List.getElem?_eq_getElem hk⟩
      have hmem : st ∈ s1.people := List.mem_of_getElem? hst
      have hgd : s1.people.getD kk [] = st := by rw [List.getD_eq_getElem?_getD, hst]; rfl
      have okst : ∀ q ∈ st, okName q.1 = true := fun q hq => ok.net.nm _ (ok.ppl st hmem q hq)
      have hlen := ok.len st hmem
      refine cb_set 2 (P1 := Pd.d K (stackD st)) (ed_ixL (ds := s1.people.map stackD) (ev_d (ev_fld (ev_name (i := 0) rfl) h1 T.c_NetPlay T.n_NetPlay_people rfl) (.lst (.of h4) h5)) (ev_name (i := 1) rfl) (atI_nat (by rw [List.getElem?_map, hst]; rfl))) l fun v B1 H1 t1 hv => ?_
      refine ws_if (k := st.isEmpty) (et_eqd (ru64 hr) (ev_d (ev_name (i := 2) rfl) hv) ed_nilT (shapedP okst) rfl (by rw [stackD, eqv_nilT, List.isEmpty_map])) t1.lo (fun e H2 t2 => ?_) (fun e H2 t2 => ?_)
      · have est : st = [] := List.isEmpty_iff.mp e
        have ⟨dxn, r, hn1, hn2⟩ := h2
        have lq : Le B H2 := l.trans ((le_of t1.same).trans (le_of t2))
        refine ws_ret (P := Pd.d K (.list (((keysN rows).filter fun n => !decide (n ∈ s1.there)).map .str))) (EvL.toD (EvP.le (cb_lcL 3 (as := keysN rows) (φ := .str) (F := fun n => !decide (n ∈ s1.there)) (G := .str) (EvL.toD (ev_meth0 (met_Net_names T) hr (ev_fld (ev_name (i := 0) rfl) h1 T.c_NetPlay T.n_NetPlay_net rfl) hn1 rfl fun B2 l2 => ⟨q, rows, rfl, h2.le l2, rfl⟩)) (fun c hc v B1 lb hp s1 H1 C cl fp => ei_one ?_) (fun c hc hF v B1 lb hp s1 H1 C cl fp => ev_d (ev_name (i := 3) rfl) hp) (by have := ok.net.hi; show (rows.map (·.1)).length ≤ _; rw [List.length_map]; omega)) t1.up)) (t1.lo.trans (le_of t2)) fun v B' H' st' p => q1 v B' H' ((t1.trans (.keep t1.lo t2)).trans st') ?_
        · rw [dp_str hp]
          exact et_ninL (ev_name (i := 3) rfl) (ev_d (ev_fld (ev_name (i := 0) rfl) (lb.ins h1) T.c_NetPlay T.n_NetPlay_there rfl) ((dp_map_str h3) |> lb.dp)) rfl
        · show Dp K B' v (.list ((handM rows one s1 kk).map .str))
          unfold handM
          rw [hgd, est]
          exact p
      · have hne : st ≠ [] := fun e2 => by rw [e2] at e; cases e
        obtain ⟨ini, z, est⟩ : ∃ ini z, st = ini ++ [z] := ⟨st.dropLast, st.getLast hne, (List.dropLast_concat_getLast hne).symm⟩
        have hgl : st.getLast? = some z := by rw [est, List.getLast?_concat]
        have hz : z.1 ∈ keysN rows := ok.ppl st hmem z (by rw [est]; simp)
        have hM : handM rows one s1 kk = if z.2 < 0 then wantedM one s1 kk z.1 else if z.2 < ((lookN rows z.1).length : Int) then ["need"] else ["make"] := by
          unfold handM
          rw [hgd, hgl]
        have l2 := t1.lo.trans (le_of t2)
        refine ws_nil (cb_set2 3 4 (d1 := .str z.1) (d2 := .int z.2) (ed_ixT (ds := ini.map pairD ++ [pairD z]) (ev_d (ev_name (i := 2) rfl) (by
          have : stackD st = .tuple (ini.map pairD ++ [pairD z]) := by rw [stackD, est, List.map_append]; rfl
          rw [← this]
          exact hv)) (ev_neg ev_int) (atI_last _ _)) l2 fun v1 v2 B2 H3 t3 hv1 hv2 => ?_)
        have e1 := dp_str hv1
        have e2 := dp_int hv2
        subst e1 e2
        have t13 : Stp B H B2 H3 := (t1.trans (.keep t1.lo t2)).trans t3
        refine ws_if (k := decide (z.2 < 0)) (et_lt (ev_name (i := 4) rfl) ev_int rfl) t3.lo (fun e4 H4 t4 => ?_) (fun e4 H4 t4 => ?_)
        · refine ws_ret (P := Pd.d K (.list ((wantedM one s1 kk z.1).map .str))) (ev_meth (met_wanted T) hr (ev_name (i := 0) rfl) (t13.up.ins h1) rfl (ea_cons (ev_name (i := 1) rfl) (ea_1 (ev_name (i := 3) rfl))) fun vs B5 l5 h => ?_) (t3.lo.trans (le_of t4)) fun v B' H' st' p => q1 v B' H' ((t13.trans (.keep t3.lo t4)).trans st') ?_
          · obtain ⟨v1, v2, rfl, e1, e2⟩ := holds2 h
            exact ⟨p, rows, one, s1, kk, z.1, by rw [show v1 = _ from e1, show v2 = _ from e2], hpl.le (t13.up.trans l5), ok, rfl⟩
          · show Dp K B' v (.list ((handM rows one s1 kk).map .str))
            rw [hM, if_pos (of_decide_eq_true e4)]
            exact p
        · have ⟨dxn, r, hn1, hn2⟩ := h2
          obtain ⟨fdg, FG, bG⟩ := fn_Net_get (P := P) (w := w) (base := base) T
          refine ws_nil (ws_ret (P := Pd.d K (.list ((if z.2 < ((lookN rows z.1).length : Int) then (["need"] : List Str) else ["make"]).map .str))) (ev_if (k := decide (z.2 < ((lookN rows z.1).length : Int))) (et_lt (ev_name (i := 4) rfl) (ev_lenT (ds := (lookN rows z.1).map .str) T.f_len (ev_own T.u_Net_getitem FG hr bG (ev_fld (ev_name (i := 0) rfl) (t13.up.ins h1) T.c_NetPlay T.n_NetPlay_net rfl) (t13.up.ins hn1) (P := Pd.v (.str z.1)) (ev_name (i := 3) rfl) fun v B5 l5 e => ⟨q, rows, z.1, by rw [show v = _ from e], (h2.le t13.up).le l5, hz, rfl⟩)) (by rw [List.length_map])) (fun k1 => ?_) (fun k1 => ?_)) (t3.lo.trans (le_of t4)) fun v B' H' st' p => q1 v B' H' ((t13.trans (.keep t3.lo t4)).trans st') ?_)
          · rw [if_pos (of_decide_eq_true k1)]
            exact ed_lst (ds := [.str "need"]) (ea_1 ed_str) (by decide)
          · rw [if_neg (of_decide_eq_false k1)]
            exact ed_lst (ds := [.str "make"]) (ea_1 ed_str) (by decide)
          · show Dp K B' v (.list ((handM rows one s1 kk).map .str))
            rw [hM, if_neg (of_decide_eq_false e4)]
            exact p
/-- what state() tells -/
structure Sta where
  made : List Str
  lock : Option Nat
  people : List Stk
def staD (s : Sta) : PyData := .tuple [.tuple (s.made.map .str), lockD s.lock, .tuple (s.people.map stackD)]
def Ply.sta (s : Ply) : Sta := ⟨sortS s.there, s.lock, s.people⟩
def A_state (K : PySem.W.Frag) : List V → Hp → Pd → Prop := fun vs B R => ∃ p rows one s, vs = [.ref p] ∧ PlayAt K B p rows one s ∧ OkPly rows s ∧ ((s.bad = .none ∧ R = Pd.d K (staD s.sta)) ∨ (∃ ds, s.bad = .tuple ds ∧ R = Pd.d K s.bad))
theorem met_state : C8.Met P w K mg base 1 (cNetPlay K) "state" (pureSp (A_state K)) [] :=
  met_pure T.d_NetPlay_state T.c_NetPlay T.m_NetPlay_state ⟨rfl, rfl, rfl, by decide +kernel, rfl, by decide +kernel, by decide +kernel⟩ (fun _ _ _ _ _ _ us hl => match us, hl with | [_], _ => rfl) (N := ["self", "name"]) (ps := ["self"]) (fun vs B R ⟨_, _, _, _, e, _⟩ => by rw [e]; rfl)
    fun cdv A0 outer s H0 E vs B H R D hr l ⟨p, rows, one, s1, e, hpl, ok, hc⟩ q1 q2 => by
      subst e
      have ⟨dx, q, tl, pl, vb, ys, h1, h2, h3, h4, h5, h6⟩ := hpl
      rcases hc with ⟨hb, eR⟩ | ⟨ds, hb, eR⟩
      · subst eR
        have evb : vb = .non := dp_non (by rw [← hb]; exact h6)
        subst evb
        refine ws_ifN (et_isnt (v := .non) (ev_fld (ev_name (i := 0) rfl) h1 T.c_NetPlay T.n_NetPlay_bad rfl) rfl) l fun H1 t1 => ?_
        refine ws_ret (P := Pd.d K (staD s1.sta)) ?_ (l.trans (le_of t1)) fun v B' H' st p => q1 v B' H' ((Stp.keep l t1).trans st) p
        refine ed_tup (ds := [.tuple ((sortS s1.there).map .str), lockD s1.lock, .tuple (s1.people.map stackD)]) (ea_cons ?_ (ea_cons ?_ (ea_1 ?_))) (by simp)
        · refine ed_tupL T.f_tuple rfl rfl (EvL.toD (el_sortedS T.f_sorted rfl (EvL.toD (EvP.imp (cb_lcL 1 (as := s1.there) (φ := .str) (F := fun _ => true) (G := .str) (ev_d (ev_fld (ev_name (i := 0) rfl) h1 T.c_NetPlay T.n_NetPlay_there rfl) (dp_map_str h3)) (fun c hc v B1 lb hp s1 H1 C cl fp => ei_nil) (fun c hc hF v B1 lb hp s1 H1 C cl fp => ?_) (by have := ok.th; omega)) fun v H' _ h => by
            rw [List.filter_eq_self.mpr (fun _ _ => rfl)] at h
            exact h)) ok.th (fun zs p h => sortS_eq p h)))
          rw [dp_str hp]
          exact ev_d (ev_strS T.f_str rfl (ev_name (i := 1) rfl)) (.str c)
        · refine ev_d (ev_fld (ev_name (i := 0) rfl) h1 T.c_NetPlay T.n_NetPlay_lock rfl) ?_
          cases s1.lock with
          | none => exact .non
          | some j => exact .int _
        · exact ed_tupL T.f_tuple rfl rfl (ev_d (ev_fld (ev_name (i := 0) rfl) h1 T.c_NetPlay T.n_NetPlay_people rfl) (.lst (.of h4) h5))
      · subst eR
        obtain ⟨a, xs, evb, _⟩ := dp_tuple (by rw [← hb]; exact h6)
        subst evb
        refine ws_ifY (et_isnt (v := .ref a) (ev_fld (ev_name (i := 0) rfl) h1 T.c_NetPlay T.n_NetPlay_bad rfl) (by simp)) l fun H1 t1 => ?_
        exact ws_ret (P := Pd.d K s1.bad) (ev_d (ev_fld (ev_name (i := 0) rfl) h1 T.c_NetPlay T.n_NetPlay_bad rfl) h6) (l.trans (le_of t1)) fun v B' H' st p => q1 v B' H' ((Stp.keep l t1).trans st) p
end
end K57

set_option Elab.async false
set_option linter.all false
set_option maxRecDepth 100000
set_option maxHeartbeats 4000000
/-! YE: the play, changing. -/
namespace K57
open PySem PySem.Spec PyProof.Rows L2
theorem Stp.dropO {B H B3 H3 : Hp} {p : Addr} {o : HO} (s : Stp (upd B p o) H B3 H3) (hB : B p = none) : Stp B H (cutP B3 p) H3 := by
  refine ⟨s.same, fun x u hx => ?_, le_cutP.trans s.lo, fun x hx hy => ?_⟩
  · have na : x ≠ p := fun q => by rw [q, hB] at hx; cases hx
    rcases s.up x u (by rw [upd_ne na]; exact hx) with h1 | ⟨kvs, d, r⟩
    · exact .inl (by rw [cutP_ne na]; exact h1)
    · refine .inr ⟨kvs, d, ?_⟩
      rcases r with r | ⟨ob, r⟩
      · exact .inl (by rw [cutP_ne na]; exact r)
      · exact .inr ⟨ob, by rw [cutP_ne na]; exact r⟩
  · by_cases q : x = p
    · rw [q, cutP_same]
    · rw [cutP_ne q]
      exact s.non x (by rw [upd_ne q]; exact hx) hy
mutual
def noL : PyData → Bool
  | .list _ => false
  | .tuple xs => noLs xs
  | .dict _ => false
  | _ => true
def noLs : List PyData → Bool
  | [] => true
  | x :: r => noL x && noLs r
end
mutual
theorem dp_cut {K : PySem.W.Frag} {B : Hp} {p : Addr} {o : HO} (hp : B p = some o) (ho : ∀ xs, ¬ o = .tup xs ∧ ∀ ob, ¬ o = .frz ob (.tup xs)) : ∀ {d : PyData} {v : V}, noL d = true → Dp K B v d → Dp K (cutP B p) v d
  | .none, _, _, .non => .non
  | .bool _, _, _, .bl b => .bl b
  | .int _, _, _, .int i => .int i
  | .str _, _, _, .str x => .str x
  | .list _, _, h, _ => by cases h
  | .tuple _, _, h, .tup s a => .tup (by
      rcases s with s | s
      · refine .inl ?_
        rcases s with s | ⟨ob, s⟩
        · refine .inl ?_
          rw [cutP_ne (fun e => by rw [e, hp] at s; exact (ho _).1 (Option.some.inj s))]
          exact s
        · refine .inr ⟨ob, ?_⟩
          rw [cutP_ne (fun e => by rw [e, hp] at s; exact (ho _).2 ob (Option.some.inj s))]
          exact s
      · exact .inr s) (dpa_cut' hp ho h a)
theorem dpa_cut' {K : PySem.W.Frag} {B : Hp} {p : Addr} {o : HO} (hp : B p = some o) (ho : ∀ xs, ¬ o = .tup xs ∧ ∀ ob, ¬ o = .frz ob (.tup xs)) : ∀ {ds : List PyData} {vs : List V}, noLs ds = true → DpAll K B vs ds → DpAll K (cutP B p) vs ds
  | [], _, _, .nil => .nil
  | _ :: _, _, h, .cons a t => .cons (dp_cut hp ho (Bool.and_eq_true_iff.mp h).1 a) (dpa_cut' hp ho (Bool.and_eq_true_iff.mp h).2 t)
end
/-- the play, all told by place, known -/
def PlayE (K : PySem.W.Frag) (B : Hp) (p tl pl : Addr) (rows : List (Str × List Str)) (one : Bool) (s : Ply) (q : Addr) (ys : List V) (dx : Addr) (vb : V) : Prop := B p = some (.ins (cNetPlay K) dx (playF q one (lockV s.lock) tl pl vb)) ∧ NetAt K B q rows ∧ B tl = some (.lst (s.there.map .str)) ∧ B pl = some (.lst ys) ∧ DpAll K B ys (s.people.map stackD) ∧ Dp K B vb s.bad
/-- the play, not known: it may change -/
def PlayX (K : PySem.W.Frag) (B H : Hp) (p tl pl : Addr) (rows : List (Str × List Str)) (one : Bool) (s : Ply) : Prop := ∃ dx q vb ys, H p = some (.ins (cNetPlay K) dx (playF q one (lockV s.lock) tl pl vb)) ∧ H tl = some (.lst (s.there.map .str)) ∧ H pl = some (.lst ys) ∧ B p = none ∧ B tl = none ∧ B pl = none ∧ tl ≠ pl ∧ NetAt K B q rows ∧ DpAll K B ys (s.people.map stackD) ∧ Dp K B vb s.bad ∧ Le B H
theorem PlayX.step {K : PySem.W.Frag} {B H B' H' : Hp} {p tl pl : Addr} {rows : List (Str × List Str)} {one : Bool} {s : Ply} (h : PlayX K B H p tl pl rows one s) (t : Stp B H B' H') : PlayX K B' H' p tl pl rows one s := by
  obtain ⟨dx, q, vb, ys, h1, h2, h3, h4, h5, h6, h7, h8, h9, h10, h11⟩ := h
  exact ⟨dx, q, vb, ys, t.same _ _ h1, t.same _ _ h2, t.same _ _ h3, t.non _ h4 (by rw [h1]; simp), t.non _ h5 (by rw [h2]; simp), t.non _ h6 (by rw [h3]; simp), h7, h8.le t.up, t.up.dpAll h9, t.up.dp h10, t.lo⟩
/-- known for a while -/
theorem PlayX.known {K : PySem.W.Frag} {B H : Hp} {p tl pl : Addr} {rows : List (Str × List Str)} {one : Bool} {s : Ply} (h : PlayX K B H p tl pl rows one s) : ∃ B2, Le B B2 ∧ Le B2 H ∧ (∃ q ys dx vb, PlayE K B2 p tl pl rows one s q ys dx vb) ∧
    ∀ B3 H3, Stp B2 H B3 H3 → ∃ B', Stp B H B' H3 ∧ PlayX K B' H3 p tl pl rows one s ∧ ∀ v d, noL d = true → Dp K B3 v d → Dp K B' v d := by
  have hx := h
  obtain ⟨dx, q, vb, ys, h1, h2, h3, h4, h5, h6, h7, h8, h9, h10, h11⟩ := h
  have ptl : p ≠ tl := fun e => by rw [e, h2] at h1; cases h1
  have ppl : p ≠ pl := fun e => by rw [e, h3] at h1; cases h1
  have n1 : upd B tl (.lst (s.there.map .str)) pl = none := by rw [upd_ne h7.symm]; exact h6
  have n2 : upd (upd B tl (.lst (s.there.map .str))) pl (.lst ys) p = none := by rw [upd_ne ppl, upd_ne ptl]; exact h4
  have l1 : Le B (upd B tl (.lst (s.there.map .str))) := Le.new h5
  have l2 : Le B (upd (upd B tl (.lst (s.there.map .str))) pl (.lst ys)) := l1.trans (Le.new n1)
  have l3 := l2.trans (Le.new (o := .ins (cNetPlay K) dx (playF q one (lockV s.lock) tl pl vb)) n2)
  refine ⟨upd (upd (upd B tl (.lst (s.there.map .str))) pl (.lst ys)) p (.ins (cNetPlay K) dx (playF q one (lockV s.lock) tl pl vb)), l3, le_put (le_put (le_put h11 h2) h3) h1, ⟨q, ys, dx, vb, upd_same, h8.le l3, ?_, ?_, l3.dpAll h9, l3.dp h10⟩, fun B3 H3 t => ?_⟩
  · rw [upd_ne ptl.symm, upd_ne h7, upd_same]
  · rw [upd_ne ppl.symm, upd_same]
  · have b1 : B3 p = some (.ins (cNetPlay K) dx (playF q one (lockV s.lock) tl pl vb)) := t.up.ins upd_same
    have b2 : B3 pl = some (.lst ys) := t.up.lst (by rw [upd_ne ppl.symm, upd_same])
    have b3 : B3 tl = some (.lst (s.there.map .str)) := t.up.lst (by rw [upd_ne ptl.symm, upd_ne h7, upd_same])
    have t1 := t.dropO n2
    have t2 := t1.dropO n1
    have t3 := t2.dropO h5
    refine ⟨_, t3, hx.step t3, fun v d hd hv => ?_⟩
    refine dp_cut (o := .lst (s.there.map .str)) (by rw [cutP_ne h7, cutP_ne ptl.symm]; exact b3) (fun xs => ⟨by simp, by simp⟩) hd (dp_cut (o := .lst ys) (by rw [cutP_ne ppl.symm]; exact b2) (fun xs => ⟨by simp, by simp⟩) hd (dp_cut b1 (fun xs => ⟨by simp, by simp⟩) hd hv))
theorem PlayE.at {K : PySem.W.Frag} {B : Hp} {p tl pl : Addr} {rows : List (Str × List Str)} {one : Bool} {s : Ply} {q : Addr} {ys : List V} {dx : Addr} {vb : V} (h : PlayE K B p tl pl rows one s q ys dx vb) : PlayAt K B p rows one s := ⟨dx, q, tl, pl, vb, ys, h⟩
section
variable {X : Cx} {e c o i : Expr} {σ : L2.St} {B H : Hp} {p tl pl : Addr} {rows : List (Str × List Str)} {one : Bool} {s : Ply} {d : PyData} {pos px : Pos} {D : Ends} {rest body orelse : List Stmt}
/-- an expression of data, by the play as it is known for a while -/
theorem PlayX.evD (h : PlayX X.K B H p tl pl rows one s) (hd : noL d = true) (he : ∀ B2 q ys dx vb, Le B B2 → PlayE X.K B2 p tl pl rows one s q ys dx vb → EvD X e σ B2 d) : WE X e σ H (fun v H' => ∃ B', Stp B H B' H' ∧ PlayX X.K B' H' p tl pl rows one s ∧ Dp X.K B' v d) := by
  obtain ⟨B2, l1, l2, ⟨q, ys, dx, vb, hE⟩, hk⟩ := h.known
  refine (he B2 q ys dx vb l1 hE H l2).mono fun v H' ⟨B3, t, hv⟩ => ?_
  obtain ⟨B', t', hx, hdp⟩ := hk B3 H' t
  exact ⟨B', t', hx, hdp v d hd hv⟩
theorem PlayX.evT {k : Bool} (h : PlayX X.K B H p tl pl rows one s) (he : ∀ B2 q ys dx vb, Le B B2 → PlayE X.K B2 p tl pl rows one s q ys dx vb → EvT X c σ B2 k) (h1 : k = true → ∀ H', Same H H' → PlayX X.K B H' p tl pl rows one s → WSs X body { D with nx := WSs X rest D } σ H') (h2 : k = false → ∀ H', Same H H' → PlayX X.K B H' p tl pl rows one s → WSs X orelse { D with nx := WSs X rest D } σ H') :
    WSs X (.If c body orelse pos :: rest) D σ H := by
  obtain ⟨B2, l1, l2, ⟨q, ys, dx, vb, hE⟩, hk⟩ := h.known
  have lBH : Le B H := l1.trans l2
  exact ws_if (he B2 q ys dx vb l1 hE) l2 (fun e H' t => h1 e H' t (h.step (.keep lBH t))) (fun e H' t => h2 e H' t (h.step (.keep lBH t)))
/-- o.f = e, by e's own judgement -/
theorem ws_fldW {p C : Addr} {f : Str} {pos' : Pos} {Q' : VK} (h : WE X e σ H Q') (ho : ∀ {H1}, Ev X o σ H1 (.ref p)) (hc : Cls X.K C) (n : NoAttr X.K C f)
    (k : ∀ v H', Q' v H' → ∃ dx fs, H' p = some (.ins C dx fs) ∧ fs.length < 100 ∧ ∀ H2, Same H' H2 → WSs X rest D σ (upd H2 p (.ins C dx (putF f v fs)))) (hs : swapsWith e (some (.Attribute o f pos')) pos.line X.env = pure false := by rfl) : WSs X (.Assign [.Attribute o f pos'] e pos :: rest) D σ H :=
  ws_cons (ps_fld pe_w pe_w hs) (h.mono fun v H' q => (ho H' (Le.refl H')).mono fun u H2 ⟨B2, s2, (q2 : u = .ref p)⟩ => by
    obtain ⟨dx, fs, e1, hl, kk⟩ := k v H' q
    exact ⟨p, C, dx, fs, q2, s2.same _ _ e1, hc, n, Nat.lt_trans hl (by decide), kk H2 s2.same⟩)
/-- o[i] = e, o a list at a -/
theorem ws_ixW {a : Addr} {k : Int} {Q' : VK} (h : WE X e σ H Q') (kk : ∀ v H', Q' v H' → ∃ B' xs j, Le B' H' ∧ Ev X o σ B' (.ref a) ∧ Ev X i σ B' (.int k) ∧ H' a = some (.lst xs) ∧ ixN xs.length k = some j ∧ ∀ H2, Same H' H2 → WSs X rest D σ (upd H2 a (.lst (xs.set j v))))
    (ha : ∀ v, assign (.Subscript o i px) X.env v = (do
      let ov ← holding [v] (eval o X.env)
      let iv ← holding [v, ov] (eval i X.env)
      standAt px
      holding [v, ov, iv] (setItem ov iv v)
      release [v, ov, iv] []) := by intro _; rfl) (hs : swapsWithSole [.Subscript o i px] e pos.line X.env = pure false := by rfl) (hw : swappedStores [.Subscript o i px] e X.env = pure none := by rfl)
    (h1 : (assignEach [.Subscript o i px] X.env).map (·.2) = [assign (.Subscript o i px) X.env] := by rfl) : WSs X (.Assign [.Subscript o i px] e pos :: rest) D σ H :=
  ws_cons (ps_asg (pe_w (e := e)) (pg_sub pe_w pe_w set_list ha) hs hw h1) (h.mono fun v H' q => by
    obtain ⟨B', xs, j, l, ho, hi, e1, hj, k2⟩ := kk v H' q
    exact (ho H' l).mono fun u H2 ⟨B2, s2, (q2 : u = .ref a)⟩ => ((hi.le s2.up) H2 s2.lo).mono fun u3 H3 ⟨B3, s3, (q3 : u3 = .int k)⟩ => ⟨a, xs, k, j, q2, q3, s3.same _ _ (s2.same _ _ e1), hj, k2 H3 (s2.same.trans s3.same)⟩)
end
end K57

set_option Elab.async false
set_option linter.all false
set_option maxRecDepth 100000
set_option maxHeartbeats 4000000
/-! YF: goes_back. -/
namespace K57
open PySem PySem.Spec PyProof.Rows L2
theorem ixN_of {n j : Nat} (h : j < n) : ixN n (j : Int) = some j := by
  unfold ixN
  rw [if_pos (by omega)]
  simp [h]
def backM (s : Ply) (k : Nat) : Ply :=
  match (s.people.getD k []).dropLast.getLast? with
  | some q => { s with people := s.people.set k ((s.people.getD k []).dropLast.dropLast ++ [(q.1, q.2 + 1)]) }
  | none => { s with people := s.people.set k [], lock := if s.lock = some k then none else s.lock }
theorem cutD_init (ini : List PyData) (z : PyData) : cutD (ini ++ [z]) none (some (-1)) = ini := by
  unfold cutD
  have h : HT.sIx (ini ++ [z]).length (ini ++ [z]).length (some (-1)) = ini.length := by
    unfold HT.sIx
    dsimp only
    rw [if_pos (by decide), List.length_append, List.length_singleton]
    omega
  rw [h]
  show ((ini ++ [z]).drop 0).take (ini.length - 0) = ini
  simp
theorem noLs_pair : ∀ st : Stk, noLs (st.map pairD) = true
  | [] => rfl
  | q :: r => by
    rw [List.map_cons]
    show (noL (pairD q) && _) = true
    rw [noLs_pair r]
    rfl
theorem noL_stack (st : Stk) : noL (stackD st) = true := noLs_pair st
/-- the promise of goes_back -/
def spBack (K : PySem.W.Frag) : Sp := fun vs H Q _ => ∃ p tl pl rows one s B k, vs = [.ref p, .int (k : Nat)] ∧ PlayX K B H p tl pl rows one s ∧ OkPly rows s ∧ k < s.people.length ∧ s.people.getD k [] ≠ [] ∧
  ∀ B' H', StpX [p, tl, pl] B H B' H' → PlayX K B' H' p tl pl rows one (backM s k) → Q .non H'
section
variable {K : PySem.W.Frag} {B H : Hp} {p tl pl : Addr} {rows : List (Str × List Str)} {one : Bool} {s : Ply}
theorem PlayX.has (h : PlayX K B H p tl pl rows one s) : ∀ x ∈ [p, tl, pl], H x ≠ none := by
  obtain ⟨dx, q, vb, ys, h1, h2, h3, _⟩ := h
  intro x hx
  simp only [List.mem_cons, List.mem_nil_iff, or_false] at hx
  rcases hx with rfl | rfl | rfl
  · rw [h1]; simp
  · rw [h2]; simp
  · rw [h3]; simp
theorem PlayX.le (h : PlayX K B H p tl pl rows one s) : Le B H := let ⟨_, _, _, _, _, _, _, _, _, _, _, _, _, _, l⟩ := h; l
/-- the stack of a hand, written -/
theorem PlayX.setStk (h : PlayX K B H p tl pl rows one s) {k : Nat} {st : Stk} {v : V} (hv : Dp K B v (stackD st)) : ∃ ys, H pl = some (.lst ys) ∧ ys.length = s.people.length ∧ StpX [p, tl, pl] B H B (upd H pl (.lst (ys.set k v))) ∧ PlayX K B (upd H pl (.lst (ys.set k v))) p tl pl rows one { s with people := s.people.set k st } := by
  obtain ⟨dx, q, vb, ys, h1, h2, h3, h4, h5, h6, h7, h8, h9, h10, h11⟩ := h
  have ppl : p ≠ pl := fun e => by rw [e, h3] at h1; cases h1
  refine ⟨ys, h3, by rw [dpa_len h9, List.length_map], (StpX.refl h11).after (by simp) h6 (by rw [h3]; simp), dx, q, vb, ys.set k v, by rw [upd_ne ppl]; exact h1, by rw [upd_ne h7]; exact h2, upd_same, h4, h5, h6, h7, h8, ?_, h10, h11.mut h6⟩
  show DpAll K B (ys.set k v) ((s.people.set k st).map stackD)
  rw [List.map_set]
  exact dpa_set hv k h9
/-- the lock, written -/
theorem PlayX.setLock (h : PlayX K B H p tl pl rows one s) (o : Option Nat) : ∃ dx q vb, H p = some (.ins (cNetPlay K) dx (playF q one (lockV s.lock) tl pl vb)) ∧ ∀ H2, Same H H2 → StpX [p, tl, pl] B H B (upd H2 p (.ins (cNetPlay K) dx (putF "lock" (lockV o) (playF q one (lockV s.lock) tl pl vb)))) ∧
    PlayX K B (upd H2 p (.ins (cNetPlay K) dx (putF "lock" (lockV o) (playF q one (lockV s.lock) tl pl vb)))) p tl pl rows one { s with lock := o } := by
  obtain ⟨dx, q, vb, ys, h1, h2, h3, h4, h5, h6, h7, h8, h9, h10, h11⟩ := h
  have ptl : tl ≠ p := fun e => by rw [e, h1] at h2; cases h2
  have ppl : pl ≠ p := fun e => by rw [e, h1] at h3; cases h3
  refine ⟨dx, q, vb, h1, fun H2 t => ⟨((StpX.refl h11).step t).after (by simp) h4 (by rw [h1]; simp), dx, q, vb, ys, upd_same, by rw [upd_ne ptl]; exact t _ _ h2, by rw [upd_ne ppl]; exact t _ _ h3, h4, h5, h6, h7, h8, h9, h10, (h11.trans (le_of t)).mut h4⟩⟩
end
section
variable {P : Program} {w : World} {K : PySem.W.Frag} {mg : Str → Option Value} {base : Heap} {N : List Str} {qual : Str} {sc scope : Scope} {f : Addr} {cdv : Value} {A0 : Around} {outer : List Env} {s0 : Shared} {H0 : Hp} {E0 : XK} {e eo ei : Expr} {σ : L2.St} {B H : Hp} {p tl pl : Addr} {rows : List (Str × List Str)} {one : Bool} {s : Ply} {pos px ap : Pos} {D : Ends} {rest : List Stmt}
/-- self.people[k] = e -/
theorem cb_setStk {st : Stk} {kk : Nat} (T : Tx P K mg) (hx : PlayX K B H p tl pl rows one s) (hk : kk < s.people.length) (heo : ∀ B', Ev (Cb P w K mg base N qual sc f cdv A0 outer s0 H0 E0) eo σ B' (.ref p)) (hei : ∀ B', Ev (Cb P w K mg base N qual sc f cdv A0 outer s0 H0 E0) ei σ B' (.int (kk : Int))) (he : ∀ B2 q ys dx vb, Le B B2 → PlayE K B2 p tl pl rows one s q ys dx vb → EvD (Cb P w K mg base N qual sc f cdv A0 outer s0 H0 E0) e σ B2 (stackD st))
    (k : ∀ B' H', StpX [p, tl, pl] B H B' H' → PlayX K B' H' p tl pl rows one { s with people := s.people.set kk st } → WSs (Cb P w K mg base N qual sc f cdv A0 outer s0 H0 E0) rest D σ H')
    (hb : attributeBase eo "people" (Cb P w K mg base N qual sc f cdv A0 outer s0 H0 E0).env (eval eo (Cb P w K mg base N qual sc f cdv A0 outer s0 H0 E0).env) = eval eo (Cb P w K mg base N qual sc f cdv A0 outer s0 H0 E0).env := by rfl)
    (ha : ∀ v, assign (.Subscript (.Attribute eo "people" ap) ei px) (Cb P w K mg base N qual sc f cdv A0 outer s0 H0 E0).env v = (do
      let ov ← holding [v] (eval (.Attribute eo "people" ap) (Cb P w K mg base N qual sc f cdv A0 outer s0 H0 E0).env)
      let iv ← holding [v, ov] (eval ei (Cb P w K mg base N qual sc f cdv A0 outer s0 H0 E0).env)
      standAt px
      holding [v, ov, iv] (setItem ov iv v)
      release [v, ov, iv] []) := by intro _; rfl) (hs : swapsWithSole [.Subscript (.Attribute eo "people" ap) ei px] e pos.line (Cb P w K mg base N qual sc f cdv A0 outer s0 H0 E0).env = pure false := by rfl) (hw : swappedStores [.Subscript (.Attribute eo "people" ap) ei px] e (Cb P w K mg base N qual sc f cdv A0 outer s0 H0 E0).env = pure none := by rfl)
    (h1 : (assignEach [.Subscript (.Attribute eo "people" ap) ei px] (Cb P w K mg base N qual sc f cdv A0 outer s0 H0 E0).env).map (·.2) = [assign (.Subscript (.Attribute eo "people" ap) ei px) (Cb P w K mg base N qual sc f cdv A0 outer s0 H0 E0).env] := by rfl) : WSs (Cb P w K mg base N qual sc f cdv A0 outer s0 H0 E0) (.Assign [.Subscript (.Attribute eo "people" ap) ei px] e pos :: rest) D σ H :=
  ws_ixW (X := (Cb P w K mg base N qual sc f cdv A0 outer s0 H0 E0)) (a := pl) (k := (kk : Int)) (PlayX.evD (X := (Cb P w K mg base N qual sc f cdv A0 outer s0 H0 E0)) hx (noL_stack st) he) (fun v H' ⟨B', t, hx', hv⟩ => by
    have l' : Le B' H' := hx'.le
    obtain ⟨B2, l1, l2, ⟨q, ys, dx, vb, hE⟩, _⟩ := hx'.known
    refine ⟨B2, ys, kk, l2, ev_fld (X := (Cb P w K mg base N qual sc f cdv A0 outer s0 H0 E0)) (heo B2) hE.1 T.c_NetPlay T.n_NetPlay_people rfl hb, hei B2, l2.lst hE.2.2.2.1, ?_, fun H2 t2 => ?_⟩
    · have hl := dpa_len hE.2.2.2.2.1
      rw [List.length_map] at hl
      exact ixN_of (by rw [hl]; exact hk)
    · have hx2 := hx'.step (.keep l' t2)
      obtain ⟨ys', e1, e2, sx, px⟩ := hx2.setStk (k := kk) hv
      have ey : ys' = ys := by
        have := t2 _ _ (l2.lst hE.2.2.2.1)
        rw [this] at e1
        cases e1
        rfl
      subst ey
      exact k B' _ ((t.trans (.keep l' t2)).x.trans sx hx2.has) px) ha hs hw h1
end
section
variable {P : Program} {w : World} {K : PySem.W.Frag} {mg : Str → Option Value} {base : Heap} (T : Tx P K mg)
include T
theorem met_back : C8.Met P w K mg base 1 (cNetPlay K) "goes_back" (spBack K) [] := by
  obtain ⟨fd, F⟩ := T.d_NetPlay_goes_back
  refine ⟨_, fd, ["self", "k"], [], T.c_NetPlay, T.m_NetPlay_goes_back, fn_w F (N := ["self", "k", "stack", "name", "at"]) ⟨rfl, rfl, rfl, by decide +kernel, rfl, by decide +kernel, by decide +kernel⟩ (fun vs H Q E ⟨_, _, _, _, _, _, _, _, e, _⟩ => by rw [e]; rfl) ?_, F.bindsN (fun _ _ _ _ _ _ us hl => match us, hl with | [_, _], _ => rfl), .nil⟩
  intro cdv A0 outer s0 H0 vs H Q E hr ⟨p, tl, pl, rows, one, s1, B, kk, e, hx, ok, hk, hne, fin⟩
  subst e
  obtain ⟨st, hst⟩ : ∃ st, s1.people[kk]? = some st := ⟨_, List.getElem?_eq_getElem hk⟩
  have hmem : st ∈ s1.people := List.mem_of_getElem? hst
  have hgd : s1.people.getD kk [] = st := by rw [List.getD_eq_getElem?_getD, hst]; rfl
  rw [hgd] at hne
  obtain ⟨ini, z, est⟩ : ∃ ini z, st = ini ++ [z] := ⟨st.dropLast, st.getLast hne, (List.dropLast_concat_getLast hne).symm⟩
  have hdl : (s1.people.getD kk []).dropLast = ini := by rw [hgd, est]; simp
  have okini : ∀ q ∈ ini, okName q.1 = true := fun q hq => ok.net.nm _ (ok.ppl st hmem q (by rw [est]; simp [hq]))
  have hlen := ok.len st hmem
  have hlen2 : ini.length ≤ 1000 := by rw [est, List.length_append] at hlen; omega
  have hS : stackD st = .tuple (ini.map pairD ++ [pairD z]) := by rw [stackD, est, List.map_append]; rfl
  refine cb_setW 2 (PlayX.evD (d := stackD ini) hx (noL_stack ini) fun B2 q ys dx vb lb hE => ?_) fun v1 H1 ⟨B1, t1, hx1, hv1⟩ => ?_
  · refine ed_eq (ed_slT (ds := ini.map pairD ++ [pairD z]) (l := none) (h := some (-1)) (ed_eq (ed_ixL (ds := s1.people.map stackD) (ev_d (ev_fld (ev_name (i := 0) rfl) hE.1 T.c_NetPlay T.n_NetPlay_people rfl) (.lst (.of hE.2.2.2.1) hE.2.2.2.2.1)) (ev_name (i := 1) rfl) (atI_nat (by rw [List.getElem?_map, hst]; rfl))) hS) eo_none (eo_some (ev_neg ev_int))) (by rw [cutD_init]; rfl)
  refine PlayX.evT (k := !ini.isEmpty) hx1 (fun B2 q ys dx vb lb hE => et_ned (ru64 hr) (ev_d (ev_name (i := 2) rfl) (lb.dp hv1)) ed_nilT (shapedP okini) rfl (by rw [stackD, eqv_nilT, List.isEmpty_map])) (fun e H2 t2 hx2 => ?_) (fun e H2 t2 hx2 => ?_)
  · have hni : ini ≠ [] := fun e2 => by rw [e2] at e; cases e
    obtain ⟨ini2, y, e2⟩ : ∃ ini2 y, ini = ini2 ++ [y] := ⟨ini.dropLast, ini.getLast hni, (List.dropLast_concat_getLast hni).symm⟩
    have hM : backM s1 kk = { s1 with people := s1.people.set kk (ini2 ++ [(y.1, y.2 + 1)]) } := by
      unfold backM
      rw [hdl, e2]
      simp
    have hS2 : stackD ini = .tuple (ini2.map pairD ++ [pairD y]) := by rw [stackD, e2, List.map_append]; rfl
    refine cb_set2 3 4 (d1 := .str y.1) (d2 := .int y.2) (ed_ixT (ds := ini2.map pairD ++ [pairD y]) (ev_d (ev_name (i := 2) rfl) (by rw [← hS2]; exact hv1)) (ev_neg ev_int) (atI_last _ _)) hx2.le fun w1 w2 B3 H3 t3 hw1 hw2 => ?_
    have ew1 := dp_str hw1
    have ew2 := dp_int hw2
    subst ew1 ew2
    refine cb_set 2 (P1 := Pd.d K (stackD (ini2 ++ [(y.1, y.2 + 1)]))) ?_ t3.lo fun v4 B4 H4 t4 hv4 => ?_
    · refine ed_eq (ed_catT (ds1 := ini2.map pairD) (ds2 := [pairD (y.1, y.2 + 1)]) (ed_eq (ed_slT (ds := ini2.map pairD ++ [pairD y]) (l := none) (h := some (-1)) (ev_d (ev_name (i := 2) rfl) (by rw [← hS2]; exact t3.up.dp hv1)) eo_none (eo_some (ev_neg ev_int))) (by rw [cutD_init])) (ed_tup (ds := [pairD (y.1, y.2 + 1)]) (ea_1 (ed_tup (ds := [.str y.1, .int (y.2 + 1)]) (ea_cons (ev_d (ev_name (i := 3) rfl) (.str _)) (ea_1 (ev_d (ev_add (ev_name (i := 4) rfl) ev_int) (.int _)))) (by simp))) (by simp)) ?_) (by rw [stackD, List.map_append]; rfl)
      rw [List.length_map, List.length_singleton]
      rw [e2, List.length_append] at hlen2
      omega
    have hx4 := hx2.step (t3.trans t4)
    refine ws_nil (cb_setStk T hx4 hk (fun B' => (ev_name (i := 0) rfl)) (fun B' => (ev_name (i := 1) rfl)) (fun B2 q ys dx vb lb hE => ev_d (ev_name (i := 2) rfl) (lb.dp hv4)) fun B5 H5 t5 hx5 => ws_nil (fin B5 H5 ?_ (by rw [hM]; exact hx5)))
    exact (((t1.trans (.keep hx1.le t2)).trans (t3.trans t4)).x).trans t5 hx4.has
  · have eini : ini = [] := by
      cases ini with
      | nil => rfl
      | cons _ _ => cases e
    have hM : backM s1 kk = { s1 with people := s1.people.set kk [], lock := if s1.lock = some kk then none else s1.lock } := by
      unfold backM
      rw [hdl, eini]
      rfl
    rw [eini] at hv1
    have t12 : StpX [p, tl, pl] B H B1 H2 := (t1.trans (.keep hx1.le t2)).x
    refine PlayX.evT (k := decide (s1.lock = some kk)) hx2 (fun B2 q ys dx vb lb hE => et_eqs (x := lockV s1.lock) (y := .int (kk : Int)) (ev_fld (ev_name (i := 0) rfl) hE.1 T.c_NetPlay T.n_NetPlay_lock rfl) (ev_name (i := 1) rfl) (by cases s1.lock <;> rfl) ?_) (fun e3 H3 t3 hx3 => ?_) (fun e3 H3 t3 hx3 => ?_)
    · cases s1.lock with
      | none => simp [lockV]
      | some j =>
        simp [lockV]
        omega
    · have el := of_decide_eq_true e3
      refine ws_fldW (p := p) (Q' := fun v H' => v = .non ∧ Same H3 H') ((ev_none H3 (Le.refl H3)).mono fun v H' ⟨B', t, (e : v = .non)⟩ => ⟨e, t.same⟩) (ev_name (i := 0) rfl) T.c_NetPlay T.n_NetPlay_lock fun v H' ⟨ev, t4⟩ => ?_
      subst ev
      have hx4 := hx3.step (.keep hx3.le t4)
      obtain ⟨dx, q, vb, e1, kk2⟩ := hx4.setLock none
      refine ⟨dx, _, e1, by show 6 < 100; decide, fun H5 t5 => ?_⟩
      obtain ⟨sx, px⟩ := kk2 H5 t5
      refine ws_nil (ws_nil ((cb_setStk (st := []) T px hk (fun B' => (ev_name (i := 0) rfl)) (fun B' => (ev_name (i := 1) rfl)) (fun B2 q ys dx vb lb hE => ev_d (ev_name (i := 2) rfl) (lb.dp hv1)) fun B6 H6 t6 hx6 => ws_nil (fin B6 H6 ?_ (by rw [hM, if_pos el]; exact hx6)))))
      exact ((((t12.step t3).step t4).trans sx hx4.has)).trans t6 px.has
    · have el := of_decide_eq_false e3
      refine ws_nil (ws_nil (cb_setStk (st := []) T hx3 hk (fun B' => (ev_name (i := 0) rfl)) (fun B' => (ev_name (i := 1) rfl)) (fun B2 q ys dx vb lb hE => ev_d (ev_name (i := 2) rfl) (lb.dp hv1)) fun B6 H6 t6 hx6 => ws_nil (fin B6 H6 ((t12.step t3).trans t6 hx3.has) (by rw [hM, if_neg el]; exact hx6))))
end
end K57

set_option Elab.async false
set_option linter.all false
set_option maxRecDepth 100000
set_option maxHeartbeats 4000000
/-! YG: do; NetPlay's making; behind. -/
namespace K57
open PySem PySem.Spec PyProof.Rows L2
def itselfD (k : Nat) (name : Str) : PyData := .tuple [.str "itself", .int (k : Nat), .str name]
def doM (rows : List (Str × List Str)) (one : Bool) (s : Ply) (k : Nat) (deed : Str) : Ply :=
  match (s.people.getD k []).getLast? with
  | none => { s with people := s.people.set k [(deed, -1)] }
  | some q =>
    if deed = "ask" then { s with bad := itselfD k q.1 }
    else if deed = "own" then { s with people := s.people.set k ((s.people.getD k []).dropLast ++ [(q.1, 0)]), lock := if one then some k else none }
    else if deed = "need" then { s with people := s.people.set k (s.people.getD k [] ++ [((lookN rows q.1).getD q.2.toNat "", -1)]) }
    else backM (if deed = "make" then { s with there := s.there ++ [q.1] } else s) k
/-- the promise of do -/
def spDo (K : PySem.W.Frag) : Sp := fun vs H Q _ => ∃ p tl pl rows one s B k deed, vs = [.ref p, .int (k : Nat), .str deed] ∧ PlayX K B H p tl pl rows one s ∧ OkPly rows s ∧ k < s.people.length ∧
  (∀ q, (s.people.getD k []).getLast? = some q → deed = "need" → 0 ≤ q.2 ∧ q.2 < ((lookN rows q.1).length : Int)) ∧ (deed = "make" → s.there.length < 60) ∧
  ∀ B' H', StpX [p, tl, pl] B H B' H' → PlayX K B' H' p tl pl rows one (doM rows one s k deed) → Q .non H'
section
variable {K : PySem.W.Frag} {B H : Hp} {p tl pl : Addr} {rows : List (Str × List Str)} {one : Bool} {s : Ply}
/-- the fault, written -/
theorem PlayX.setBad (h : PlayX K B H p tl pl rows one s) {v : V} {d : PyData} (hv : Dp K B v d) : ∃ dx q vb, H p = some (.ins (cNetPlay K) dx (playF q one (lockV s.lock) tl pl vb)) ∧ ∀ H2, Same H H2 → StpX [p, tl, pl] B H B (upd H2 p (.ins (cNetPlay K) dx (putF "bad" v (playF q one (lockV s.lock) tl pl vb)))) ∧
    PlayX K B (upd H2 p (.ins (cNetPlay K) dx (putF "bad" v (playF q one (lockV s.lock) tl pl vb)))) p tl pl rows one { s with bad := d } := by
  obtain ⟨dx, q, vb, ys, h1, h2, h3, h4, h5, h6, h7, h8, h9, h10, h11⟩ := h
  have ptl : tl ≠ p := fun e => by rw [e, h1] at h2; cases h2
  have ppl : pl ≠ p := fun e => by rw [e, h1] at h3; cases h3
  refine ⟨dx, q, vb, h1, fun H2 t => ⟨((StpX.refl h11).step t).after (by simp) h4 (by rw [h1]; simp), dx, q, v, ys, upd_same, by rw [upd_ne ptl]; exact t _ _ h2, by rw [upd_ne ppl]; exact t _ _ h3, h4, h5, h6, h7, h8, h9, hv, (h11.trans (le_of t)).mut h4⟩⟩
/-- a name, put to what is there -/
theorem PlayX.add (h : PlayX K B H p tl pl rows one s) (n : Str) : H tl = some (.lst (s.there.map .str)) ∧ StpX [p, tl, pl] B H B (upd H tl (.lst (s.there.map .str ++ [.str n]))) ∧ PlayX K B (upd H tl (.lst (s.there.map .str ++ [.str n]))) p tl pl rows one { s with there := s.there ++ [n] } := by
  obtain ⟨dx, q, vb, ys, h1, h2, h3, h4, h5, h6, h7, h8, h9, h10, h11⟩ := h
  have ptl : p ≠ tl := fun e => by rw [e, h2] at h1; cases h1
  refine ⟨h2, (StpX.refl h11).after (by simp) h5 (by rw [h2]; simp), dx, q, vb, ys, by rw [upd_ne ptl]; exact h1, ?_, by rw [upd_ne h7.symm]; exact h3, h4, h5, h6, h7, h8, h9, h10, h11.mut h5⟩
  rw [upd_same, List.map_append]
  rfl
end
section
variable {X : Cx} {e o : Expr} {σ : L2.St} {H : Hp} {pos apos : Pos} {es : List Expr}
/-- a method that changes, as a value -/
theorem we_meth {sp : Sp} {k j : Nat} {C q dx : Addr} {fs : List (Str × V)} {m : Str} {Ps : List Pd} {B : Hp} {Q : VK} {pl : Sem Bool} (c : C8.Met X.prog X.w X.K X.mg X.base k C m sp []) (hr : Room j X.A) (ho : ∀ B', Ev X o σ B' (.ref q)) (hq : H q = some (.ins C dx fs)) (hl : fs.lookup m = none) (l : Le B H)
    (ha : EvA X (e :: es) σ B Ps) (h : ∀ vs B2 H2, Stp B H B2 H2 → Holds Ps vs B2 → sp (.ref q :: vs) H2 Q C8.E0) (hk : k ≤ j := by decide)
    (hst : starEach (e :: es) X.env = (false, eval e X.env) :: starEach es X.env := by rfl) (hpl : (backTo pos (starEach es X.env)).any (·.1) = false := by rfl)
    (ht : eval (.Call (.Attribute o m apos) (e :: es) [] pos) X.env = (do
      let ov ← eval o X.env
      standAt apos.atName
      let (f, first) ← holding [ov] (getMethod ov m pl)
      callWith pos f first (backTo pos (starEach (e :: es) X.env)) (backToKw pos (keywordEach [] X.env))) := by rfl) : WE X (.Call (.Attribute o m apos) (e :: es) [] pos) σ H Q := by
  obtain ⟨t, pt, ka⟩ := ha
  refine .of (C8.pe_mt (pl := pl) c hr hk pe_w pt hst hpl ht) ((ho H H (Le.refl H)).mono fun v1 H2 ⟨B1, s1, (p1 : v1 = .ref q)⟩ => ⟨q, dx, fs, p1, s1.same _ _ hq, hl, ?_⟩)
  refine ka H2 (l.trans (le_of s1.same)) _ fun vs B2 H3 s2 hs => ?_
  show sp (v1 :: (vs ++ [])) H3 _ _
  rw [List.append_nil, p1]
  exact h vs B2 H3 ((Stp.keep l s1.same).trans s2) hs
end
section
variable {P : Program} {w : World} {K : PySem.W.Frag} {mg : Str → Option Value} {base : Heap} (T : Tx P K mg)
include T
theorem met_do : C8.Met P w K mg base 4 (cNetPlay K) "do" (spDo K) [] := by
  obtain ⟨fd, F⟩ := T.d_NetPlay_do
  refine ⟨_, fd, ["self", "k", "deed"], [], T.c_NetPlay, T.m_NetPlay_do, fn_w F (N := ["self", "k", "deed", "stack", "name", "at"]) ⟨rfl, rfl, rfl, by decide +kernel, rfl, by decide +kernel, by decide +kernel⟩ (fun vs H Q E ⟨_, _, _, _, _, _, _, _, _, e, _⟩ => by rw [e]; rfl) ?_, F.bindsN (fun _ _ _ _ _ _ us hl => match us, hl with | [_, _, _], _ => rfl), .nil⟩
  intro cdv A0 outer s0 H0 vs H Q E hr ⟨p, tl, pl, rows, one, s1, B, kk, deed, e, hx, ok, hk, hneed, hmk, fin⟩
  subst e
  obtain ⟨st, hst⟩ : ∃ st, s1.people[kk]? = some st := ⟨_, List.getElem?_eq_getElem hk⟩
  have hmem : st ∈ s1.people := List.mem_of_getElem? hst
  have hgd : s1.people.getD kk [] = st := by rw [List.getD_eq_getElem?_getD, hst]; rfl
  have okst : ∀ q ∈ st, okName q.1 = true := fun q hq => ok.net.nm _ (ok.ppl st hmem q hq)
  have hlen := ok.len st hmem
  refine cb_setW 3 (PlayX.evD (d := stackD st) hx (noL_stack st) fun B2 q ys dx vb lb hE => ed_ixL (ds := s1.people.map stackD) (ev_d (ev_fld (ev_name (i := 0) rfl) hE.1 T.c_NetPlay T.n_NetPlay_people rfl) (.lst (.of hE.2.2.2.1) hE.2.2.2.2.1)) (ev_name (i := 1) rfl) (atI_nat (by rw [List.getElem?_map, hst]; rfl))) fun v1 H1 ⟨B1, t1, hx1, hv1⟩ => ?_
  refine PlayX.evT (k := st.isEmpty) hx1 (fun B2 q ys dx vb lb hE => et_eqd (ru64 hr) (ev_d (ev_name (i := 3) rfl) (lb.dp hv1)) ed_nilT (shapedP okst) rfl (by rw [stackD, eqv_nilT, List.isEmpty_map])) (fun e H2 t2 hx2 => ?_) (fun e H2 t2 hx2 => ?_)
  · have est : st = [] := List.isEmpty_iff.mp e
    refine cb_setStk (st := [(deed, -1)]) T hx2 hk (fun B' => (ev_name (i := 0) rfl)) (fun B' => (ev_name (i := 1) rfl)) (fun B2 q ys dx vb lb hE => ?_) fun B3 H3 t3 hx3 => ws_retN (fin B3 H3 ((t1.trans (.keep hx1.le t2)).x.trans t3 hx2.has) ?_)
    · exact ed_tup (ds := [pairD (deed, -1)]) (ea_1 (ed_tup (ds := [.str deed, .int (-1)]) (ea_cons (ev_d (ev_name (i := 2) rfl) (.str _)) (ea_1 (ev_d (ev_neg ev_int) (.int _)))) (by simp))) (by simp)
    · have : doM rows one s1 kk deed = { s1 with people := s1.people.set kk [(deed, -1)] } := by
        unfold doM
        rw [hgd, est]
        rfl
      rw [this]
      exact hx3
  · have hne : st ≠ [] := fun e2 => by rw [e2] at e; cases e
    obtain ⟨ini, z, est⟩ : ∃ ini z, st = ini ++ [z] := ⟨st.dropLast, st.getLast hne, (List.dropLast_concat_getLast hne).symm⟩
    have hgl : st.getLast? = some z := by rw [est, List.getLast?_concat]
    have hz : z.1 ∈ keysN rows := ok.ppl st hmem z (by rw [est]; simp)
    have hS : stackD st = .tuple (ini.map pairD ++ [pairD z]) := by rw [stackD, est, List.map_append]; rfl
    have hdl : (s1.people.getD kk []).dropLast = ini := by rw [hgd, est]; simp
    refine ws_nil (cb_set2 4 5 (d1 := .str z.1) (d2 := .int z.2) (ed_ixT (ds := ini.map pairD ++ [pairD z]) (ev_d (ev_name (i := 3) rfl) (by rw [← hS]; exact hv1)) (ev_neg ev_int) (atI_last _ _)) hx2.le fun w1 w2 B3 H3 t3 hw1 hw2 => ?_)
    have ew1 := dp_str hw1
    have ew2 := dp_int hw2
    subst ew1 ew2
    have hx3 := hx2.step t3
    have t13 : Stp B H B3 H3 := (t1.trans (.keep hx1.le t2)).trans t3
    have hv3 : Dp K B3 v1 (stackD st) := t3.up.dp hv1
    have hdo : ∀ {r : Ply}, (if deed = "ask" then { s1 with bad := itselfD kk z.1 } else if deed = "own" then { s1 with people := s1.people.set kk (ini ++ [(z.1, 0)]), lock := if one then some kk else none } else if deed = "need" then { s1 with people := s1.people.set kk (st ++ [((lookN rows z.1).getD z.2.toNat "", -1)]) } else backM (if deed = "make" then { s1 with there := s1.there ++ [z.1] } else s1) kk) = r → doM rows one s1 kk deed = r := fun h => by
      unfold doM
      rw [hdl, hgd, hgl]
      exact h
    refine ws_if (k := decide (deed = "ask")) (et_eqs (ev_name (i := 2) rfl) ev_str rfl (by simp)) hx3.le (fun e4 H4 t4 => ?_) (fun e4 H4 t4 => ?_)
    · have e4' := of_decide_eq_true e4
      have hx4 := hx3.step (.keep hx3.le t4)
      refine ws_fldW (p := p) (PlayX.evD (d := itselfD kk z.1) hx4 rfl fun B5 q ys dx vb lb hE => ed_tup (ds := [.str "itself", .int (kk : Int), .str z.1]) (ea_cons ed_str (ea_cons (ev_d (ev_name (i := 1) rfl) (.int _)) (ea_1 (ev_d (ev_name (i := 4) rfl) (.str _))))) (by simp)) (ev_name (i := 0) rfl) T.c_NetPlay T.n_NetPlay_bad fun v H5 ⟨B5, t5, hx5, hv5⟩ => ?_
      obtain ⟨dx, q, vb, e1, kk2⟩ := hx5.setBad hv5
      refine ⟨dx, _, e1, by show 6 < 100; decide, fun H6 t6 => ?_⟩
      obtain ⟨sx, px⟩ := kk2 H6 t6
      refine ws_nil (ws_nil (fin B5 _ (((t13.trans (.keep hx3.le t4)).trans t5).x.trans sx hx5.has) ?_))
      rw [hdo (if_pos e4')]
      exact px
    have n1 := of_decide_eq_false e4
    have hx4 := hx3.step (.keep hx3.le t4)
    have t14 : Stp B H B3 H4 := t13.trans (.keep hx3.le t4)
    refine ws_if (k := decide (deed = "own")) (et_eqs (ev_name (i := 2) rfl) ev_str rfl (by simp)) hx4.le (fun e5 H5 t5 => ?_) (fun e5 H5 t5 => ?_)
    · have e5' := of_decide_eq_true e5
      have hx5 := hx4.step (.keep hx4.le t5)
      refine cb_setStk (st := ini ++ [(z.1, 0)]) T hx5 hk (fun B' => (ev_name (i := 0) rfl)) (fun B' => (ev_name (i := 1) rfl)) (fun B2 q ys dx vb lb hE => ?_) fun B6 H6 t6 hx6 => ?_
      · refine ed_eq (ed_catT (ds1 := ini.map pairD) (ds2 := [pairD (z.1, 0)]) (ed_eq (ed_slT (ds := ini.map pairD ++ [pairD z]) (l := none) (h := some (-1)) (ev_d (ev_name (i := 3) rfl) (by rw [← hS]; exact lb.dp hv3)) eo_none (eo_some (ev_neg ev_int))) (by rw [cutD_init])) (ed_tup (ds := [pairD (z.1, 0)]) (ea_1 (ed_tup (ds := [.str z.1, .int 0]) (ea_cons (ev_d (ev_name (i := 4) rfl) (.str _)) (ea_1 (ev_d ev_int (.int _)))) (by simp))) (by simp)) ?_) (by rw [stackD, List.map_append]; rfl)
        rw [List.length_map, List.length_singleton]
        rw [est, List.length_append] at hlen
        omega
      refine ws_fldW (p := p) (PlayX.evD (d := lockD (if one then some kk else none)) hx6 (by cases one <;> rfl) fun B7 q ys dx vb lb hE => ev_if (k := one) (et_v (ev_fld (ev_name (i := 0) rfl) hE.1 T.c_NetPlay T.n_NetPlay_is_one rfl)) (fun ho => ?_) (fun ho => ?_)) (ev_name (i := 0) rfl) T.c_NetPlay T.n_NetPlay_lock fun v H7 ⟨B7, t7, hx7, hv7⟩ => ?_
      · rw [ho]
        exact ev_d (ev_name (i := 1) rfl) (.int _)
      · rw [ho]
        exact ed_none
      have ev := dp_lock hv7
      subst ev
      obtain ⟨dx, q, vb, ee, kk2⟩ := hx7.setLock (if one then some kk else none)
      refine ⟨dx, _, ee, by show 6 < 100; decide, fun H8 t8 => ?_⟩
      obtain ⟨sx, px⟩ := kk2 H8 t8
      refine ws_nil (ws_nil (ws_nil (fin B7 _ ((((t14.trans (.keep hx4.le t5)).x.trans t6 hx5.has).trans t7.x hx6.has).trans sx hx7.has) ?_)))
      rw [hdo (by rw [if_neg n1, if_pos e5'])]
      exact px
    have n2 := of_decide_eq_false e5
    have hx5 := hx4.step (.keep hx4.le t5)
    have t15 : Stp B H B3 H5 := t14.trans (.keep hx4.le t5)
    refine ws_if (k := decide (deed = "need")) (et_eqs (ev_name (i := 2) rfl) ev_str rfl (by simp)) hx5.le (fun e6 H6 t6 => ?_) (fun e6 H6 t6 => ?_)
    · have e6' := of_decide_eq_true e6
      have hx6 := hx5.step (.keep hx5.le t6)
      obtain ⟨z0, zl⟩ := hneed z (by rw [hgd]; exact hgl) e6'
      obtain ⟨n, en⟩ : ∃ n : Nat, z.2 = (n : Int) := ⟨z.2.toNat, by omega⟩
      have hn : n < (lookN rows z.1).length := by omega
      have hm : (lookN rows z.1)[n]? = some ((lookN rows z.1).getD z.2.toNat "") := by
        rw [en, Int.toNat_natCast, List.getD_eq_getElem?_getD, List.getElem?_eq_getElem hn]
        rfl
      obtain ⟨fdg, FG, bG⟩ := fn_Net_get (P := P) (w := w) (base := base) T
      refine cb_setStk (st := st ++ [((lookN rows z.1).getD z.2.toNat "", -1)]) T hx6 hk (fun B' => (ev_name (i := 0) rfl)) (fun B' => (ev_name (i := 1) rfl)) (fun B2 q ys dx vb lb hE => ?_) fun B7 H7 t7 hx7 => ?_
      · have ⟨dxn, r, hn1, hn2⟩ := hE.2.1
        refine ed_eq (ed_catT (ds1 := st.map pairD) (ds2 := [pairD ((lookN rows z.1).getD z.2.toNat "", -1)]) (ev_d (ev_name (i := 3) rfl) (lb.dp hv3)) (ed_tup (ds := [pairD ((lookN rows z.1).getD z.2.toNat "", -1)]) (ea_1 (ed_tup (ds := [.str ((lookN rows z.1).getD z.2.toNat ""), .int (-1)]) (ea_cons (ed_ixT (ds := (lookN rows z.1).map .str) (i := z.2) (ev_own T.u_Net_getitem FG hr bG (ev_fld (ev_name (i := 0) rfl) hE.1 T.c_NetPlay T.n_NetPlay_net rfl) hn1 (P := Pd.v (.str z.1)) (ev_name (i := 4) rfl) fun v B5 l5 e => ⟨q, rows, z.1, by rw [show v = _ from e], hE.2.1.le l5, hz, rfl⟩) (ev_name (i := 5) rfl) (by rw [en] at hm ⊢; exact atI_nat (by rw [List.getElem?_map, hm]; rfl))) (ea_1 (ev_d (ev_neg ev_int) (.int _)))) (by simp))) (by simp)) ?_) (by rw [stackD, List.map_append]; rfl)
        rw [List.length_map, List.length_singleton]
        omega
      refine ws_nil (ws_nil (ws_nil (ws_nil (fin B7 _ ((t15.trans (.keep hx5.le t6)).x.trans t7 hx6.has) ?_))))
      rw [hdo (by rw [if_neg n1, if_neg n2, if_pos e6'])]
      exact hx7
    have n3 := of_decide_eq_false e6
    have hx6 := hx5.step (.keep hx5.le t6)
    have t16 : Stp B H B3 H6 := t15.trans (.keep hx5.le t6)
    have back : ∀ {B7 H7 : Hp} {s7 : Ply}, StpX [p, tl, pl] B H B7 H7 → PlayX K B7 H7 p tl pl rows one s7 → OkPly rows s7 → s7.people = s1.people → doM rows one s1 kk deed = backM s7 kk → ∀ vs B2 H2, Stp B7 H7 B2 H2 → Holds [Pd.v (.int (kk : Int))] vs B2 → spBack K (.ref p :: vs) H2 (fun v H' => Q .non H') C8.E0 := fun {B7 H7 s7} t7 hx7 ok7 ep ed vs B2 H2 t8 hs => by
      obtain ⟨v, rfl, ev⟩ := holds1 hs
      have hx8 := hx7.step t8
      refine ⟨p, tl, pl, rows, one, s7, B2, kk, by rw [show v = _ from ev], hx8, ok7, by rw [ep]; exact hk, by rw [ep, hgd]; exact hne, fun B' H' t9 hx9 => fin B' H' ((t7.trans t8.x hx7.has).trans t9 hx8.has) ?_⟩
      rw [ed]
      exact hx9
    refine ws_if (k := decide (deed = "make")) (et_eqs (ev_name (i := 2) rfl) ev_str rfl (by simp)) hx6.le (fun e7 H7 t7 => ?_) (fun e7 H7 t7 => ?_)
    · have e7' := of_decide_eq_true e7
      have hx7 := hx6.step (.keep hx6.le t7)
      obtain ⟨B2, l1, l2, ⟨q, ys, dx, vb, hE⟩, _⟩ := hx7.known
      refine cb_app (P1 := Pd.v (.str z.1)) (ev_name (i := 4) rfl) l2 (ev_fld (ev_name (i := 0) rfl) hE.1 T.c_NetPlay T.n_NetPlay_there rfl) (l2.lst hE.2.2.1) (by have := hmk e7'; rw [List.length_map]; omega) fun v B8 H8 t8 ev h8 => ?_
      have ev' : v = .str z.1 := ev
      subst ev'
      have hx8 := hx7.step (.keep hx7.le t8.same)
      obtain ⟨_, sx, px⟩ := hx8.add z.1
      have t9 : StpX [p, tl, pl] B H B3 (upd H8 tl (.lst (s1.there.map .str ++ [.str z.1]))) := ((t16.trans (.keep hx6.le t7)).trans (.keep hx7.le t8.same)).x.trans sx hx8.has
      have ok9 : OkPly rows { s1 with there := s1.there ++ [z.1] } := ⟨ok.net, ok.ppl, ok.l4, ok.len, by have := hmk e7'; show (s1.there ++ [z.1]).length < 64; rw [List.length_append, List.length_singleton]; omega, fun n hn => by
        rcases List.mem_append.mp hn with g | g
        · exact ok.thn n g
        · rw [List.mem_singleton.mp g]
          exact hz⟩
      have ⟨dx9, q9, vb9, ys9, hp9, _⟩ := px
      refine ws_nil (ws_exprW (we_meth (met_back T) hr (fun B' => (ev_name (i := 0) rfl)) hp9 rfl px.le (ea_1 (ev_name (i := 1) rfl)) (back t9 px ok9 rfl (hdo (by rw [if_neg n1, if_neg n2, if_neg n3, if_pos e7'])))) fun v H9 hq => ws_nil (ws_nil (ws_nil (ws_nil hq))))
    · have e7' := of_decide_eq_false e7
      have hx7 := hx6.step (.keep hx6.le t7)
      have ⟨dx9, q9, vb9, ys9, hp9, _⟩ := hx7
      refine ws_nil (ws_exprW (we_meth (met_back T) hr (fun B' => (ev_name (i := 0) rfl)) hp9 rfl hx7.le (ea_1 (ev_name (i := 1) rfl)) (back (t16.trans (.keep hx6.le t7)).x hx7 ok rfl (hdo (by rw [if_neg n1, if_neg n2, if_neg n3, if_neg e7'])))) fun v H9 hq => ws_nil (ws_nil (ws_nil (ws_nil hq))))
end
end K57

set_option Elab.async false
set_option linter.all false
set_option maxRecDepth 100000
set_option maxHeartbeats 4000000
/-! YH: NetPlay's making. -/
namespace K57
open PySem PySem.Spec PyProof.Rows L2
section
variable {X : Cx} {e : Expr} {σ : L2.St} {H : Hp} {pos : Pos}
theorem we_listT {p : Pos} {a : Addr} {xs : List V} {H1 : Hp} (hm : X.mg "list" = none) (hv : bootBuiltins "list" = some (.type "list")) (h : Ev X e σ H (.ref a)) (hq : SqT X.K H a xs) (l : Le H H1) (hg : Gl X "list" := by rfl) (he : starEach [e] X.env = (false, eval e X.env) :: starEach [] X.env := by rfl) :
    WE X (.Call (.Name "list" p) [e] [] pos) σ H1 (fun v H' => ∃ l H2, v = .ref l ∧ Same H1 H2 ∧ H2 l = none ∧ H' = upd H2 l (.lst xs)) := by
  obtain ⟨t, pt, ka⟩ := ea_1 h he
  refine .of (pe_callTy call_list_of hg hm hv pt (by decide) (by decide) he rfl) (ka H1 l _ fun vs B H2 s hs => ?_)
  obtain ⟨v, rfl, (p1 : v = .ref a)⟩ := holds1 hs
  subst p1
  exact ⟨a, xs, rfl, .inr ((l.trans (le_of s.same)).sqT hq), fun l hl => ⟨l, H2, rfl, s.same, hl, rfl⟩⟩
end
theorem ev_at {X : Cx} {e : Expr} {σ : L2.St} {B H : Hp} {v : V} (h : Ev X e σ B v) (l : Le B H) : WE X e σ H (fun v' H' => ∃ B', Stp B H B' H' ∧ v' = v) := h H l
/-- the promise of NetPlay's __init__ -/
def spPlay (K : PySem.W.Frag) : Sp := fun vs H Q _ => ∃ p dx sa v B g rows n st, vs = [.ref p, .ref sa, v] ∧ H p = some (.ins (cNetPlay K) dx []) ∧ B p = none ∧ Le B H ∧ SetAt K B sa g rows n ∧ Dp K B v (staD st) ∧
  ∀ B' H' tl pl, StpX [p] B H B' H' → H tl = none → H pl = none → PlayX K B' H' p tl pl rows (decide (g = "one")) ⟨st.made, st.lock, st.people, .none⟩ → Q .non H'
section
variable {P : Program} {w : World} {K : PySem.W.Frag} {mg : Str → Option Value} {base : Heap} (T : Tx P K mg)
include T
theorem mak_Play : C8.Mak P w K mg base 4 "NetPlay" (cNetPlay K) (spPlay K) [] := by
  obtain ⟨fd, F⟩ := T.d_NetPlay_init
  refine ⟨_, fd, ["self", "setting", "state"], [], T.k_NetPlay, fn_w F (N := ["self", "setting", "state", "made", "people"]) ⟨rfl, rfl, rfl, by decide +kernel, rfl, by decide +kernel, by decide +kernel⟩ (fun vs H Q E ⟨_, _, _, _, _, _, _, _, _, e, _⟩ => by rw [e]; rfl) ?_, T.g_NetPlay, F.bindsN (fun _ _ _ _ _ _ us hl => match us, hl with | [_, _, _], _ => rfl), .nil⟩
  intro cdv A0 outer s0 H0 vs H Q E hr ⟨p, dx, sa, v, B, g, rows, n, st, e, hp, hBp, l, hset, hv, fin⟩
  subst e
  have ⟨dxs, fss, hs1, b, vn, ef, hb, hn⟩ := hset
  subst ef
  have ⟨dxb, fsb, hb1, hb2⟩ := hb
  have hpn : H p ≠ none := by rw [hp]; simp
  obtain ⟨fdg, FG, bG⟩ := fn_Book_get (P := P) (w := w) (base := base) T
  refine ws_fld (P := Pd.net K rows) (ev_own T.u_NetBook_getitem FG hr bG (ev_fld (ev_name (i := 1) rfl) hs1 T.c_Setting T.n_Setting_base rfl) hb1 (P := Pd.v (.str "needs")) ev_str fun u B5 l5 e => ⟨b, g, rows, hb.le l5, .inr ⟨by rw [show u = _ from e], rfl⟩⟩) l (fun s => (ev_name (i := 0) rfl)) hp T.c_NetPlay T.n_NetPlay_net (by decide) fun u B1 H1 t1 ⟨q, eu, hq⟩ hp1 => ?_
  subst eu
  have x1 := t1.x.after (S := [p]) (o := .ins (cNetPlay K) dx [(("net" : Str), V.ref q)]) (List.mem_singleton.mpr rfl) hBp hpn
  have hB1 : B1 p = none := x1.non p hBp hpn
  have upn : ∀ {H2 : Hp} {o : HO}, ∀ x ∈ [p], upd H2 p o x ≠ none := fun x hx => by rw [List.mem_singleton.mp hx, upd_same]; simp
  refine ws_fld (P := Pd.v (.bl (decide (g = "one")))) (ev_eqs (ev_own T.u_NetBook_getitem FG hr bG (ev_fld (ev_name (i := 1) rfl) (t1.up.ins hs1) T.c_Setting T.n_Setting_base rfl) (t1.up.ins hb1) (P := Pd.v (.str "guard")) ev_str fun u B5 l5 e => ⟨b, g, rows, hb.le (t1.up.trans l5), .inl ⟨by rw [show u = _ from e], rfl⟩⟩) ev_str rfl (by simp)) x1.lo (fun s => (ev_name (i := 0) rfl)) upd_same T.c_NetPlay T.n_NetPlay_is_one (by show 1 < 100; decide) fun u B2 H2 t2 eu hp2 => ?_
  have eu' : u = .bl (decide (g = "one")) := eu
  subst eu'
  have x2 : StpX [p] B H B2 (upd H2 p (.ins (cNetPlay K) dx [(("net" : Str), V.ref q), (("is_one" : Str), V.bl (decide (g = "one")))])) := (x1.trans t2.x upn).after (List.mem_singleton.mpr rfl) hBp hpn
  have hB2 : B2 p = none := x2.non p hBp hpn
  obtain ⟨sq, xs, ev, hsq, hds⟩ := dp_tuple (x2.up.dp hv)
  subst ev
  cases hds with
  | cons dm hds => cases hds with
    | cons dl hds => cases hds with
      | cons dpp hds =>
        cases hds
        rename_i vm vl vp
        have evl := dp_lock dl
        subst evl
        obtain ⟨am, xm, evm, hm1, hm2⟩ := dp_tuple dm
        subst evm
        obtain ⟨ap, xp, evp, hp3, hp4⟩ := dp_tuple dpp
        subst evp
        have exm := dpa_strs_inv hm2
        subst exm
        refine ws_cons (ps_asg (pe_w) (pg_tup rfl (pgs_cons (cb_gname 3) (pgs_cons (pg_fld pe_w) (pgs_cons (cb_gname 4) pgs_nil))))) ((ev_at (v := .ref sq) (ev_name (i := 2) rfl) x2.lo).mono fun u H3 ⟨B3, t3, (eu : u = .ref sq)⟩ => ?_)
        subst eu
        have l3 : Le B2 H3 := x2.lo.trans (le_of t3.same)
        refine ⟨sq, _, rfl, l3.sqT hsq, rfl, _, _, rfl, _, _, rfl, ?_⟩
        refine (ev_at (v := .ref p) (ev_name (i := 0) rfl) l3).mono fun u H4 ⟨B4, t4, (eu : u = .ref p)⟩ => ?_
        subst eu
        have e4 := t4.same _ _ (t3.same _ _ (upd_same (H := H2) (a := p)))
        refine ⟨p, _, _, _, rfl, e4, T.c_NetPlay, T.n_NetPlay_lock, by show 2 < 1000; decide, _, _, rfl, rfl, ?_⟩
        have x4 : StpX [p] B H B2 (upd H4 p (.ins (cNetPlay K) dx [(("net" : Str), V.ref q), (("is_one" : Str), V.bl (decide (g = "one"))), (("lock" : Str), lockV st.lock)])) := ((x2.step t3.same).step t4.same).after (List.mem_singleton.mpr rfl) hBp hpn
        refine ws_fldW (p := p) (we_listT (a := am) T.f_list rfl (ev_name (i := 3) rfl) hm1 x4.lo) (ev_name (i := 0) rfl) T.c_NetPlay T.n_NetPlay_there fun u H5 ⟨tl, H5', eu, s5, n5, e5⟩ => ?_
        subst eu e5
        have hp5 : H5' p = some (.ins (cNetPlay K) dx [(("net" : Str), V.ref q), (("is_one" : Str), V.bl (decide (g = "one"))), (("lock" : Str), lockV st.lock)]) := s5 _ _ upd_same
        have ptl : p ≠ tl := fun e => by rw [e] at hp5; rw [hp5] at n5; cases n5
        refine ⟨dx, _, by rw [upd_ne ptl]; exact hp5, by show 3 < 100; decide, fun H6 t6 => ?_⟩
        have x5 : StpX [p] B H B2 (upd H5' tl (.lst (st.made.map .str))) := (x4.step s5).step (same_new n5)
        have hBtl : B2 tl = none := le_none (x4.step s5).lo n5
        have hHtl : H tl = none := by
          cases ho : H tl with
          | none => rfl
          | some o =>
            have := (x4.step s5).same tl o (fun h => ptl (List.mem_singleton.mp h).symm) ho
            rw [n5] at this
            cases this
        have x6 : StpX [p] B H B2 (upd H6 p (.ins (cNetPlay K) dx [(("net" : Str), V.ref q), (("is_one" : Str), V.bl (decide (g = "one"))), (("lock" : Str), lockV st.lock), (("there" : Str), V.ref tl)])) := (x5.step t6).after (List.mem_singleton.mpr rfl) hBp hpn
        have htl6 : upd H6 p (.ins (cNetPlay K) dx [(("net" : Str), V.ref q), (("is_one" : Str), V.bl (decide (g = "one"))), (("lock" : Str), lockV st.lock), (("there" : Str), V.ref tl)]) tl = some (.lst (st.made.map .str)) := by rw [upd_ne ptl.symm]; exact t6 _ _ upd_same
        refine ws_fldW (p := p) (we_listT (a := ap) T.f_list rfl (ev_name (i := 4) rfl) hp3 x6.lo) (ev_name (i := 0) rfl) T.c_NetPlay T.n_NetPlay_people fun u H7 ⟨pl, H7', eu, s7, n7, e7⟩ => ?_
        subst eu e7
        have hp7 := s7 _ _ (upd_same (H := H6) (a := p))
        have htl7 := s7 _ _ htl6
        have ppl : p ≠ pl := fun e => by rw [e] at hp7; rw [hp7] at n7; cases n7
        have tpl : tl ≠ pl := fun e => by rw [e] at htl7; rw [htl7] at n7; cases n7
        refine ⟨dx, _, by rw [upd_ne ppl]; exact hp7, by show 4 < 100; decide, fun H8 t8 => ?_⟩
        have x7 : StpX [p] B H B2 (upd H7' pl (.lst xp)) := (x6.step s7).step (same_new n7)
        have hBpl : B2 pl = none := le_none (x6.step s7).lo n7
        have hHpl : H pl = none := by
          cases ho : H pl with
          | none => rfl
          | some o =>
            have := (x6.step s7).same pl o (fun h => ppl (List.mem_singleton.mp h).symm) ho
            rw [n7] at this
            cases this
        have x8 : StpX [p] B H B2 (upd H8 p (.ins (cNetPlay K) dx [(("net" : Str), V.ref q), (("is_one" : Str), V.bl (decide (g = "one"))), (("lock" : Str), lockV st.lock), (("there" : Str), V.ref tl), (("people" : Str), V.ref pl)])) := (x7.step t8).after (List.mem_singleton.mpr rfl) hBp hpn
        refine ws_fldW (p := p) (ev_at (v := .non) ev_none x8.lo) (ev_name (i := 0) rfl) T.c_NetPlay T.n_NetPlay_bad fun u H9 ⟨B9, t9, eu⟩ => ?_
        subst eu
        refine ⟨dx, _, t9.same _ _ upd_same, by show 5 < 100; decide, fun H10 t10 => ?_⟩
        have x10 : StpX [p] B H B2 (upd H10 p (.ins (cNetPlay K) dx (playF q (decide (g = "one")) (lockV st.lock) tl pl .non))) := ((x8.step t9.same).step t10).after (List.mem_singleton.mpr rfl) hBp hpn
        refine ws_nil (fin B2 _ tl pl x10 hHtl hHpl ⟨dx, q, .non, xp, upd_same, ?_, ?_, hB2, hBtl, hBpl, tpl, hq.le t2.up, hp4, .non, x10.lo⟩)
        · rw [upd_ne ptl.symm]
          refine t10 _ _ (t9.same _ _ ?_)
          rw [upd_ne ptl.symm]
          refine t8 _ _ ?_
          rw [upd_ne tpl]
          exact htl7
        · rw [upd_ne ppl.symm]
          refine t10 _ _ (t9.same _ _ ?_)
          rw [upd_ne ppl.symm]
          exact t8 _ _ upd_same
end
end K57

set_option Elab.async false
set_option linter.all false
set_option maxRecDepth 100000
set_option maxHeartbeats 4000000
/-! YI: two fors in one comprehension. -/
namespace K57
open PySem PySem.Spec PyProof.Rows L2
theorem Ac.low {K : PySem.W.Frag} {B B' B3 H1 H3 H4 H' : Hp} {D : Addr} {ds : List PyData} (a : Ac K B3 H1 D ds H') (l : Le B B') (hn : ∀ a, B a = none → H1 a ≠ none → B' a = none) (s : Stp B' H3 B3 H4) (sm : Same H1 H3) : Ac K B H1 D ds H' := by
  obtain ⟨B'', acc, h1, h2, h3, h4, h5, h6, h7, h8⟩ := a.ex
  exact ⟨B'', acc, h1, l.trans (s.up.trans h2), h3, fun x hb hh => h4 x (s.non x (hn x hb hh) (same_some sm hh)) hh, h5, h6, h7, h8⟩
theorem flat_le {α : Type} (f : Nat → List α) : ∀ (n i : Nat), i ≤ n → (((List.range i).map f).flatten).length ≤ (((List.range n).map f).flatten).length
  | 0, i, h => by
    have : i = 0 := by omega
    rw [this]
    exact Nat.le_refl _
  | m + 1, i, h => by
    by_cases e : i = m + 1
    · rw [e]
      exact Nat.le_refl _
    · have := flat_le f m i (by omega)
      rw [List.range_succ, List.map_append, List.flatten_append, List.length_append]
      omega
section
variable {X : Cx} {elt it1 e0 : Expr} {scope sc : Scope} {N : List Str} {σ : L2.St} {H : Hp} {pos px py pf pc : Pos} {x y : Str} {j1 j2 : Nat}
/-- [.. for x in range(e) for y in list] -/
theorem gen_lc2 {n : Nat} {inn : Nat → List PyData} {G : Nat → PyData → PyData} (eN : X.N = N) (eS : X.env.scope = sc) (hc : X.calm = true) (hb : blkBs N sc scope [(x, j1), (y, j2)] = true) (hm : X.mg "range" = none) (hj : j1 ≠ j2) (hi : Ev X e0 σ H (.int (n : Int)))
    (hin : ∀ k, k < n → ∀ B, Le H B → ∀ (s : Shared) (H0 : Hp) (C : Addr) (cl : List (Str × Addr)) (fp : List Addr), EvD (Bk X scope s H0 C cl fp) it1 ((wipe σ [j1, j2]).set j1 (some (.int (k : Int)))) B (.list (inn k)))
    (he : ∀ k, k < n → ∀ d ∈ inn k, ∀ v B, Le H B → Dp X.K B v d → ∀ (s : Shared) (H0 : Hp) (C : Addr) (cl : List (Str × Addr)) (fp : List Addr), EvD (Bk X scope s H0 C cl fp) elt ((wipe ((wipe σ [j1, j2]).set j1 (some (.int (k : Int)))) [j2]).set j2 (some v)) B (G k d))
    (hl : (((List.range n).map fun k => (inn k).map (G k)).flatten).length < 100000) (hg : Gl X "range") (hst : starEach [e0] X.env = [(false, eval e0 X.env)]) (hst2 : starEach [e0] X.env = (false, eval e0 X.env) :: starEach [] X.env) (hn : n ≤ 1000)
    (hs : ∀ x, foldedSetIterable (.Call (.Name "range" pf) [e0] [] pc) X.env x = pure x) (hs1 : ∀ env x, foldedSetIterable it1 env x = pure x) :
    EvL X (.ListComp elt [⟨.Name x px, .Call (.Name "range" pf) [e0] [] pc, [], 0⟩, ⟨.Name y py, it1, [], 0⟩] scope pos) σ H (((List.range n).map fun k => (inn k).map (G k)).flatten) := by
  obtain ⟨h1, h2, h3⟩ := blks_of hb
  refine .of (pe_lc2 (own := [(x, j1), (y, j2)]) (vs1 := [j2]) (wi1 := iList X.K (tX X scope it1)) hc (by rw [eN]; exact h1) (pi_range1 hg hm (pa_cons pe_w pa_nil hst2) hst) (by rw [eN, eS]; exact h2) (by intro i hi; simp at hi; simp [hi]) (pgBs (p := (x, j1)) (by simp) eN hb) (pts_tI (ifs := [])) (fun s H C cl fp => pi_list (X := X.blk s H scope (compEnvC scope cl C X.env) fp) (pe_tX (elt := it1) s H C cl fp)) (pgBs (p := (y, j2)) (by simp) eN hb) (pts_tI (ifs := [])) (pe_tX (elt := elt)) hs hs1) fun H1 l => ?_
  refine (hi H1 l).mono fun v H2 ⟨B, s, (ev : v = .int (n : Int))⟩ => ?_
  subst ev
  refine ⟨(n : Int), rfl, by omega, by omega, fun D hD => ?_⟩
  have fs : ∀ (i : Nat), ((List.range (i + 1)).map fun k => (inn k).map (G k)).flatten = ((List.range i).map fun k => (inn k).map (G k)).flatten ++ (inn i).map (G i) := fun i => by
    rw [List.range_succ, List.map_append, List.flatten_append]
    simp
  have hlen := fun i hi => flat_le (fun k => (inn k).map (G k)) n i hi
  have w0 := walk_range (lo := 0) (n := n)
  refine ⟨fun i m H' => m = n - i ∧ i ≤ n ∧ Ac X.K B H2 D (((List.range i).map fun k => (inn k).map (G k)).flatten) H', ⟨n, by simp, Nat.zero_le _, Ac.start s.lo hD⟩, ?_⟩
  rintro i m H' ⟨rfl, hi2, ac⟩
  by_cases hlt : i < n
  · refine .inr ⟨w0.goes i H' hlt True.intro, fun H'' => Ac X.K B H2 D (((List.range (i + 1)).map fun k => (inn k).map (G k)).flatten) H'', fun H'' p' => ⟨n - (i + 1), by omega, rfl, hlt, p'⟩, fun z H'' hy => ?_⟩
    obtain ⟨e1, e2⟩ := w0.yields i H' z H'' hlt True.intro hy
    have e2' : z = V.int (i : Int) := e2.trans (congrArg V.int (by omega))
    subst e1 e2'
    refine ⟨by rw [wipe_set' (by simp), wipe_wipe], fun s0 H0 C cl fp => WI.mono (ei_nil _ (Le.refl _)) fun b H3 ⟨eb, s1⟩ => ?_⟩
    subst eb
    rw [if_pos rfl]
    intro s0 H0 C cl fp
    have ac1 := ac.step s1
    obtain ⟨B', acc, a1, a2, a3, a4, a5, a6, a7, a8⟩ := ac1.ex
    refine (hin i hlt B' (s.up.trans a2) s0 H0 C cl fp H3 a3).mono fun vl H4 ⟨B3, s3, p3⟩ => ?_
    obtain ⟨a, xs, e1, g1, g2⟩ := dp_list p3
    have hxl : xs.length = (inn i).length := dpa_len g2
    have hB3D : B3 D = none := s3.non D a5 (by rw [a6]; simp)
    refine ⟨a, e1, ⟨xs, s3.lo.sqL g1⟩, fun j k H5 => k = xs.length - j ∧ j ≤ xs.length ∧ Ac X.K B3 H2 D (((List.range i).map fun k => (inn k).map (G k)).flatten ++ ((inn i).take j).map (G i)) H5, ⟨xs.length, by simp, Nat.zero_le _, ?_⟩, ?_⟩
    · rw [List.take_zero, List.map_nil, List.append_nil]
      exact ⟨B3, acc, a1.trans s3.same, Le.refl _, s3.lo, fun x hx _ => hx, hB3D, s3.same _ _ a6, s3.up.dpAll a7, a8⟩
    · rintro j k H5 ⟨rfl, hj2, ac5⟩
      have w1 := walk_list (K := X.K) (a := a) (xs := xs)
      have hsq : SqL X.K H5 a xs := ac5.le.sqL g1
      by_cases hjl : j < xs.length
      · refine .inr ⟨w1.goes j H5 hjl hsq, fun H6 => Ac X.K B3 H2 D (((List.range i).map fun k => (inn k).map (G k)).flatten ++ ((inn i).take (j + 1)).map (G i)) H6, fun H6 p' => ⟨xs.length - (j + 1), by omega, rfl, hjl, p'⟩, fun z H6 hy => ?_⟩
        obtain ⟨e3, hz⟩ := w1.yields j H5 z H6 hjl hsq hy
        subst e3
        obtain ⟨d, hd, hp⟩ := dpa_get g2 hz
        refine ⟨by rw [wipe_set' (by simp), wipe_wipe], fun s0 H0 C cl fp => WI.mono (ei_nil _ (Le.refl _)) fun b H7 ⟨eb, s7⟩ => ?_⟩
        subst eb
        rw [if_pos rfl]
        intro s0 H0 C cl fp
        have ac7 := ac5.step s7
        refine (he i hlt d (List.mem_of_getElem? hd) z B3 ((s.up.trans a2).trans s3.up) hp s0 H0 C cl fp H7 ac7.le).mono fun y H8 ⟨B8, s8, p8⟩ => ?_
        have et : ((inn i).take (j + 1)).map (G i) = ((inn i).take j).map (G i) ++ [G i d] := by
          rw [List.take_succ, hd]
          simp
        obtain ⟨acc8, q1, q2, q3⟩ := ac7.app hD s8 p8 (by
          have h1 := hlen (i + 1) hlt
          rw [fs, List.length_append, List.length_map] at h1
          rw [List.length_append, List.length_map, List.length_take]
          omega)
        refine ⟨acc8, q1, q2, ?_⟩
        show Ac X.K B3 H2 D (_ ++ ((inn i).take (j + 1)).map (G i)) _
        rw [et, ← List.append_assoc]
        exact q3
      · have ej : j = xs.length := by omega
        refine .inl ⟨by rw [ej]; exact w1.stops H5 hsq, ?_⟩
        show Ac X.K B H2 D _ H5
        rw [fs]
        rw [ej, hxl, List.take_length] at ac5
        exact ac5.low a2 a4 s3 a1
  · have e : i = n := by omega
    subst e
    refine .inl ⟨w0.stops H' True.intro, ?_⟩
    obtain ⟨B2, s2, p2⟩ := ac.fin hD
    exact ⟨B2, s.trans s2, p2⟩
end
end K57

set_option Elab.async false
set_option linter.all false
set_option maxRecDepth 100000
set_option maxHeartbeats 4000000
/-! YJ: rules.py, the parts that read. -/
namespace K57
open PySem PySem.Spec PyProof.Rows L2
/-- t * 1 is t -/
theorem tuple_mul1 (l : Addr) (items : Array Value) (n : Nat) (dd : Option Addr) (sl : Array (Option Value)) (u : Tok) :
    Meets (Builtin.«tuple.__mul__» ⟨[.ref l, .int 1 u], []⟩) (fun _ R s => s.heap.get? l = some { cls := .type "tuple", dict := dd, data := .seq items n, slots := sl } ∧ R (.ok (.ret (Value.ref l))) s) :=
  .of_wp fun prog w A R s h => by
    obtain ⟨hp, g, d, tk, os⟩ := s
    obtain ⟨hl, h⟩ := h
    have f1 := AutoSeq1.idx_int
    wp_walk using wpAny_loadPart' hl
    exact ⟨_, rfl, h⟩
def rRep1 (K : PySem.W.Frag) : R2 := fun x y H Q => ∃ l xs, x = .ref l ∧ y = .int 1 ∧ SqT K H l xs ∧ Q (.ref l) H
section
variable {X : Cx}
theorem op_rep1 : OpR X (binaryOp .Mult) (rRep1 X.K) := by
  intro pins s σ H x y v u Q I rx ry h
  obtain ⟨l, xs, rfl, rfl, hT, q⟩ := h
  cases rx
  obtain ⟨t, rfl⟩ := ry
  obtain ⟨its, r, ⟨⟨cls, dd, data, sl⟩, ho, hc, n, hd⟩, hs⟩ := I.tuple hT
  simp only at hc hd
  subst hc hd
  refine wpAny_binaryOp_repeat_ref (T := "tuple") (U := "int") (by decide) ⟨_, ho, rfl⟩ (fun s' => typeIs_int s' 1 t) noFill_tuple_mul PySem.F.fills_int_mul PySem.F.slot_int_rmul repeat_tuple PySem.F.slot_int_index.lookup
    (call_meets PySem.F.slot_int_rmul (typeIs_int s 1 t) PySem.F.entry_int_rmul (PySem.F.args_int_rmul_2 _ _) (int_rmul_tuple 1 t l its.toArray n dd sl)
      ⟨ho, rfl, ⟨_, ho, rfl⟩, call_meets PySem.F.slot_tuple_mul ⟨_, ho, rfl⟩ PySem.F.entry_tuple_mul (PySem.F.args_tuple_mul_2 _ _) (tuple_mul1 l its.toArray n dd sl t) ⟨ho, ?_⟩⟩)
  exact ⟨.ref l, H, I, rfl, q⟩
end
section
variable {X : Cx} {a b c : Expr} {σ : L2.St} {H : Hp} {pos : Pos} {B : Hp} {Q : VK}
/-- ((),) * n -/
theorem ed_repE {n : Nat} (h1 : 1 ≤ n) (h4 : n ≤ 4) (ha : EvD X a σ H (.tuple [.tuple []])) (hb : Ev X b σ H (.int (n : Int))) : EvD X (.BinOp a .Mult b pos) σ H (.tuple (List.replicate n (.tuple []))) := by
  by_cases e : n = 1
  · subst e
    exact ev_bin op_rep1 ha hb fun v1 v2 B H' _ l p1 (p2 : v2 = .int 1) Q q => by
      obtain ⟨a, xs, e1, g1, g2⟩ := dp_tuple p1
      subst e1
      exact ⟨a, xs, rfl, p2, l.sqT g1, q _ _ _ (.refl l) (show Dp X.K B (.ref a) (.tuple [.tuple []]) from p1)⟩
  · exact ev_bin op_repT ha hb fun v1 v2 B H' _ l p1 (p2 : v2 = .int (n : Int)) Q q => by
      obtain ⟨a, xs, e1, g1, g2⟩ := dp_tuple p1
      cases g2 with
      | cons d1 g2 =>
        cases g2
        refine ⟨a, (n : Int), _, e1, p2, l.sqT g1, by simp, by omega, by omega, by simp, fun p hp => q _ _ _ (.new l hp) ?_⟩
        clear p2
        rename_i x0
        have er : (List.replicate (n : Int).toNat [x0]).flatten = List.replicate n x0 := by
          rw [Int.toNat_natCast]
          induction n with
          | zero => rfl
          | succ m ih => simp [List.replicate_succ, List.flatten_cons, List.flatten_replicate_singleton]
        rw [er]
        refine .tup (.of upd_same) ?_
        have d1' := (Le.new (o := .tup (List.replicate n x0)) (le_none l hp)).dp d1
        clear er
        generalize upd B p (.tup (List.replicate n x0)) = B9 at d1'
        clear e h1 h4 q hb
        induction n with
        | zero => exact .nil
        | succ m ih => exact .cons d1' ih
theorem we_ifN (h : EvT X c σ B false) (l : Le B H) (h2 : ∀ H', Same H H' → WE X b σ H' Q) : WE X (.IfExp c a b pos) σ H Q :=
  .of (pe_ifExp pt_w pe_w pe_w) ((h H l).mono fun b' H2 ⟨q, s⟩ => by
    subst q
    rw [if_neg Bool.false_ne_true]
    exact h2 H2 s)
end
section
variable {P : Program} {w : World} {K : PySem.W.Frag} {mg : Str → Option Value} {base : Heap} (T : Tx P K mg)
include T
def A_first (K : PySem.W.Frag) : List V → Hp → Pd → Prop := fun vs B R => ∃ sa g rows n, vs = [.ref sa] ∧ SetAt K B sa g rows (n : Nat) ∧ 1 ≤ n ∧ n ≤ 4 ∧ R = Pd.d K (staD ⟨[], none, List.replicate n []⟩)
theorem cal_first : C8.Cal P w K mg base 3 "first_of_net" (pureSp (A_first K)) [] :=
  cal_pure T.d_first_of_net T.g_first_of_net ⟨rfl, rfl, rfl, by decide +kernel, rfl, by decide +kernel, by decide +kernel⟩ (fun _ _ _ _ _ _ us hl => match us, hl with | [_], _ => rfl) (N := ["setting"]) (ps := ["setting"]) (fun vs B R ⟨_, _, _, _, e, _⟩ => by rw [e]; rfl)
    fun cdv A0 outer s H0 E vs B H R D hr l ⟨sa, g, rows, n, e, hs, h1, h4, eR⟩ q1 q2 => by
      subst e
      subst eR
      have ⟨dx, fs, hs1, _⟩ := hs
      refine ws_ret (P := Pd.d K (staD ⟨[], none, List.replicate n []⟩)) ?_ l q1
      refine ed_eq (ed_tup (ds := [.tuple [], .none, .tuple (List.replicate n (.tuple []))]) (ea_cons ed_nilT (ea_cons ed_none (ea_1 (ed_repE h1 h4 (ed_tup (ds := [.tuple []]) (ea_1 ed_nilT) (by simp)) (ev_prop (prp_hands T) hr (ev_name (i := 0) rfl) hs1 fun B2 l2 => ⟨sa, g, rows, n, rfl, hs.le l2, rfl⟩))))) (by simp)) ?_
      unfold staD
      rw [List.map_replicate]
      rfl
/-- the promise of play_of -/
def spPlayOf (K : PySem.W.Frag) : Sp := fun vs H Q _ => ∃ sa v B g rows n st, vs = [.ref sa, v] ∧ Le B H ∧ SetAt K B sa g rows n ∧ Dp K B v (staD st) ∧
  ∀ p tl pl B' H', Stp B H B' H' → H p = none → H tl = none → H pl = none → PlayX K B' H' p tl pl rows (decide (g = "one")) ⟨st.made, st.lock, st.people, .none⟩ → Q (.ref p) H'
theorem cal_play : C8.Cal P w K mg base 6 "play_of" (spPlayOf K) [] := by
  obtain ⟨fd, F⟩ := T.d_play_of
  refine ⟨_, fd, ["setting", "state"], [], fn_w F (N := ["setting", "state", "way"]) ⟨rfl, rfl, rfl, by decide +kernel, rfl, by decide +kernel, by decide +kernel⟩ (fun vs H Q E ⟨_, _, _, _, _, _, _, e, _⟩ => by rw [e]; rfl) ?_, T.g_play_of, F.kp, F.bindsN (fun _ _ _ _ _ _ us hl => match us, hl with | [_, _], _ => rfl), .nil⟩
  intro cdv A0 outer s0 H0 vs H Q E hr ⟨sa, v, B, g, rows, n, st, e, l, hs, hv, fin⟩
  subst e
  have ⟨dx, fs, hs1, b, vn, ef, hb, hn⟩ := hs
  subst ef
  have ⟨dxb, fsb, hb1, hb2⟩ := hb
  refine cb_set 2 (P1 := Pd.v (.str "net")) (ev_prop (prp_way T) hr (ev_fld (ev_name (i := 0) rfl) hs1 T.c_Setting T.n_Setting_base rfl) hb1 fun B2 l2 => ⟨_, rfl, rfl⟩) l fun u B1 H1 t1 eu => ?_
  have eu' : u = .str "net" := eu
  subst eu'
  refine ws_ifN (et_eqs (ev_name (i := 2) rfl) ev_str rfl (by decide +kernel)) t1.lo fun H2 t2 => ?_
  refine ws_ifN (et_eqs (ev_name (i := 2) rfl) ev_str rfl (by decide +kernel)) (t1.lo.trans (le_of t2)) fun H3 t3 => ?_
  have t13 : Stp B H B1 H3 := (t1.trans (.keep t1.lo t2)).trans (.keep (t1.lo.trans (le_of t2)) t3)
  refine ws_retW (Q' := Q) (we_ifN (et_eqs (ev_name (i := 2) rfl) ev_str rfl (by decide +kernel)) t13.lo fun H4 t4 => ?_) fun v H' q => q
  have t14 : Stp B H B1 H4 := t13.trans (.keep t13.lo t4)
  obtain ⟨t, pt, ka⟩ := ea_cons (X := Cb P w K mg base ["setting", "state", "way"] "play_of" (defScope s_play_of) (He.ga K "play_of") cdv A0 outer s0 H0 E) (σ := ([some (.ref sa), some v, some (.str "net")] : L2.St)) (H := B1) (ev_name (i := 0) rfl) (ea_1 (ev_name (i := 1) rfl))
  refine .of (C8.pe_mk (mak_Play T) hr (by decide) rfl pt) (ka H4 t14.lo _ fun vs B5 H5 t5 hs5 => ?_)
  obtain ⟨w1, w2, rfl, e1, e2⟩ := holds2 hs5
  have e1' : w1 = .ref sa := e1
  have e2' : w2 = v := e2
  subst e1' e2'
  intro x dxx hx hdx hne
  have t15 := t14.trans t5
  have hBx : B5 x = none := le_none t15.lo hx
  have hBd : B5 dxx = none := le_none t15.lo hdx
  have hHx : H x = none := t15.same.free hx
  refine ⟨x, dxx, sa, w2, B5, g, rows, n, st, rfl, upd_same, hBx, (t15.lo.mut hBd).mut hBx, hs.le t15.up, t15.up.dp hv, fun B' H' tl pl t6 h1 h2 hx6 => ⟨rfl, ?_⟩⟩
  have ntl : tl ≠ x := fun e => by rw [e, upd_same] at h1; cases h1
  have npl : pl ≠ x := fun e => by rw [e, upd_same] at h2; cases h2
  have ntd : tl ≠ dxx := fun e => by rw [upd_ne ntl, e, upd_same] at h1; cases h1
  have npd : pl ≠ dxx := fun e => by rw [upd_ne npl, e, upd_same] at h2; cases h2
  rw [upd_ne ntl, upd_ne ntd] at h1
  rw [upd_ne npl, upd_ne npd] at h2
  refine fin x tl pl B' H' ⟨fun a o ha => ?_, t15.up.trans t6.up, t6.lo, fun a ha hh => t6.non a (t15.non a ha hh) ?_⟩ hHx (t15.same.free h1) (t15.same.free h2) hx6
  · have h5 := t15.same a o ha
    have na : a ≠ x := ne_of_none h5 hx
    have nd : a ≠ dxx := ne_of_none h5 hdx
    exact t6.same a o (fun q => na (List.mem_singleton.mp q)) (by rw [upd_ne na, upd_ne nd]; exact h5)
  · have h5 := same_some t15.same hh
    by_cases q1 : a = x
    · rw [q1, upd_same]; simp
    · rw [upd_ne q1]
      by_cases q2 : a = dxx
      · rw [q2, upd_same]; simp
      · rw [upd_ne q2]
        exact h5
end
end K57

set_option Elab.async false
set_option linter.all false
set_option maxRecDepth 100000
set_option maxHeartbeats 4000000
/-! YK: rules.py. -/
namespace K57
open PySem PySem.Spec PyProof.Rows L2
def plyOf (st : Sta) : Ply := ⟨st.made, st.lock, st.people, .none⟩
def moveD (q : Nat × Str) : PyData := .tuple [.int (q.1 : Int), .str q.2]
def movesM (rows : List (Str × List Str)) (one : Bool) (st : Sta) : List (Nat × Str) := ((List.range st.people.length).map fun k => (handM rows one (plyOf st) k).map fun d => (k, d)).flatten
theorem movesD (rows : List (Str × List Str)) (one : Bool) (st : Sta) : ((List.range st.people.length).map fun k => ((handM rows one (plyOf st) k).map .str).map fun d => PyData.tuple [.int (k : Int), d]).flatten = (movesM rows one st).map moveD := by
  unfold movesM
  rw [List.map_flatten, List.map_map]
  congr 1
  apply List.map_congr_left
  intro k _
  simp only [List.map_map, Function.comp]
  rfl
theorem wanted_ok {one : Bool} {s : Ply} {k : Nat} {n : Str} : (wantedM one s k n).length ≤ 1 ∧ ∀ d ∈ wantedM one s k n, okName d = true := by
  have h : okName "take" = true ∧ okName "ask" = true ∧ okName "own" = true := by decide +kernel
  unfold wantedM
  split
  · exact ⟨by simp, by simp [h]⟩
  · split
    · exact ⟨by simp, by simp [h]⟩
    · split
      · exact ⟨by simp, by simp⟩
      · exact ⟨by simp, by simp [h]⟩
theorem hand_ok {rows : List (Str × List Str)} {one : Bool} {s : Ply} {k : Nat} (ok : OkNet rows) : (handM rows one s k).length ≤ 5 ∧ ∀ d ∈ handM rows one s k, okName d = true := by
  have h : okName "need" = true ∧ okName "make" = true := by decide +kernel
  unfold handM
  split
  · refine ⟨Nat.le_trans (List.length_filter_le _ _) (by rw [List.length_map]; exact ok.hi), fun d hd => ok.nm d (List.mem_filter.mp hd).1⟩
  · split
    · exact ⟨by have := (wanted_ok (one := one) (s := s) (k := k) (n := (by assumption : Str × Int).1)).1; omega, wanted_ok.2⟩
    · split
      · exact ⟨by simp, by simp [h]⟩
      · exact ⟨by simp, by simp [h]⟩
theorem flat_len {α : Type} (f : Nat → List α) (c : Nat) (h : ∀ k, (f k).length ≤ c) : ∀ n : Nat, (((List.range n).map f).flatten).length ≤ n * c
  | 0 => by simp
  | m + 1 => by
    have := flat_len f c h m
    have h2 := h m
    rw [List.range_succ, List.map_append, List.flatten_append, List.length_append]
    simp only [List.map_cons, List.map_nil, List.flatten_cons, List.flatten_nil, List.append_nil]
    rw [Nat.succ_mul]
    omega
theorem mem_moves {rows : List (Str × List Str)} {one : Bool} {st : Sta} {q : Nat × Str} : q ∈ movesM rows one st ↔ q.1 < st.people.length ∧ q.2 ∈ handM rows one (plyOf st) q.1 := by
  unfold movesM
  rw [List.mem_flatten]
  constructor
  · rintro ⟨l, hl, hq⟩
    obtain ⟨k, hk, rfl⟩ := List.mem_map.mp hl
    obtain ⟨d, hd, rfl⟩ := List.mem_map.mp hq
    exact ⟨List.mem_range.mp hk, hd⟩
  · rintro ⟨h1, h2⟩
    exact ⟨_, List.mem_map.mpr ⟨q.1, List.mem_range.mpr h1, rfl⟩, List.mem_map.mpr ⟨q.2, h2, rfl⟩⟩
theorem layM {l : List (Nat × Str)} (h : ∀ q ∈ l, okName q.2 = true) : PyData.canLayAll0 (l.map moveD) = true ∧ PyData.depthAll (l.map moveD) ≤ 1 := by
  induction l with
  | nil => exact ⟨rfl, Nat.zero_le _⟩
  | cons z r ih =>
    obtain ⟨i1, i2⟩ := ih fun y hy => h y (List.mem_cons_of_mem _ hy)
    have hz := h z (List.mem_cons_self ..)
    unfold okName at hz
    simp only [Bool.and_eq_true] at hz
    rw [List.map_cons]
    refine ⟨?_, ?_⟩
    · show (PyData.canLay0 (moveD z) && _) = true
      rw [i1, Bool.and_true]
      show (true && (PyData.canLay0 (.str z.2) && true)) = true
      simp only [Bool.and_true, Bool.true_and]
      exact hz.2
    · show max (PyData.depth (moveD z)) _ ≤ 1
      have : PyData.depth (moveD z) = 1 := rfl
      omega
theorem shapedM {l : List (Nat × Str)} (h : ∀ q ∈ l, okName q.2 = true) : SeqAt.shaped (.list (l.map moveD)) = true := by
  obtain ⟨h1, h2⟩ := layM h
  unfold SeqAt.shaped
  rw [Bool.and_eq_true]
  refine ⟨h1, decide_eq_true ?_⟩
  show PyData.depthAll _ + 1 ≤ 64
  omega
theorem shaped1 {q : Nat × Str} (h : okName q.2 = true) : SeqAt.shaped (moveD q) = true := by
  obtain ⟨h1, h2⟩ := layM (l := [q]) (by simpa using h)
  unfold SeqAt.shaped
  rw [Bool.and_eq_true]
  refine ⟨?_, decide_eq_true (by have : PyData.depth (moveD q) = 1 := rfl; omega)⟩
  have h1' : (PyData.canLay0 (moveD q) && true) = true := h1
  simpa using h1'
theorem eqv_move (a b : Nat × Str) : PyData.eqv (moveD a) (moveD b) = decide (a = b) := by
  show (((a.1 : Int) == (b.1 : Int)) && ((a.2 == b.2) && true)) = _
  rw [Bool.eq_iff_iff]
  obtain ⟨a1, a2⟩ := a
  obtain ⟨b1, b2⟩ := b
  simp
  omega
theorem any_move (l : List (Nat × Str)) (q : Nat × Str) : ((l.map moveD).any fun z => PyData.eqv z (moveD q)) = decide (q ∈ l) := by
  rw [Bool.eq_iff_iff]
  simp only [List.any_map, List.any_eq_true, Function.comp, eqv_move, decide_eq_true_eq]
  constructor
  · rintro ⟨x, hx, rfl⟩
    exact hx
  · intro h
    exact ⟨q, h, rfl⟩
section
variable {X : Cx} {e o : Expr} {σ : L2.St} {H : Hp} {pos : Pos} {es : List Expr}
theorem we_call {sp : Sp} {k j : Nat} {n : Str} {p : Pos} {Ps : List Pd} {B : Hp} {Q : VK} (c : C8.Cal X.prog X.w X.K X.mg X.base k n sp []) (hr : Room j X.A) (l : Le B H) (ha : EvA X (e :: es) σ B Ps) (h : ∀ vs B2 H2, Stp B H B2 H2 → Holds Ps vs B2 → sp vs H2 Q C8.E0) (hk : k ≤ j := by decide) (hg : Gl X n := by rfl)
    (hdb : (n == ("__debug__" : Str)) = false := by decide) (he : starEach (e :: es) X.env = (false, eval e X.env) :: starEach es X.env := by rfl) (hpl : (backTo pos (starEach es X.env)).any (·.1) = false := by rfl) : WE X (.Call (.Name n p) (e :: es) [] pos) σ H Q := by
  obtain ⟨t, pt, ka⟩ := ha
  refine .of (C8.pe_c c hr hk hg pt hdb he hpl) (ka H l _ fun vs B2 H2 s hs => ?_)
  show sp (vs ++ []) H2 _ _
  rw [List.append_nil]
  exact h vs B2 H2 s hs
end
theorem Stp.ownS {S : List Addr} {B H B1 H1 B2 H2 : Hp} (s : Stp B H B1 H1) (t : StpX S B1 H1 B2 H2) (h : ∀ x ∈ S, H x = none) : Stp B H B2 H2 :=
  ⟨fun a o ha => t.same a o (fun q => by rw [h a q] at ha; cases ha) (s.same a o ha), s.up.trans t.up, t.lo, fun a hb hh => t.non a (s.non a hb hh) (same_some s.same hh)⟩
/-- a play of one's own may be known -/
theorem PlayX.own {K : PySem.W.Frag} {B H B' H' : Hp} {p tl pl : Addr} {rows : List (Str × List Str)} {one : Bool} {s : Ply} (h : PlayX K B' H' p tl pl rows one s) (t : Stp B H B' H') (h1 : H p = none) (h2 : H tl = none) (h3 : H pl = none) : ∃ B2, Stp B H B2 H' ∧ Le B' B2 ∧ PlayAt K B2 p rows one s := by
  obtain ⟨dx, q, vb, ys, g1, g2, g3, g4, g5, g6, g7, g8, g9, g10, g11⟩ := h
  have ptl : p ≠ tl := fun e => by rw [e, g2] at g1; cases g1
  have ppl : p ≠ pl := fun e => by rw [e, g3] at g1; cases g1
  have t1 := t.own h2 g2 g5
  have n1 : upd B' tl (.lst (s.there.map .str)) pl = none := by rw [upd_ne g7.symm]; exact g6
  have t2 := t1.own h3 g3 n1
  have n2 : upd (upd B' tl (.lst (s.there.map .str))) pl (.lst ys) p = none := by rw [upd_ne ppl, upd_ne ptl]; exact g4
  have t3 := t2.own h1 g1 n2
  have l3 : Le B' _ := ((Le.new (o := .lst (s.there.map .str)) g5).trans (Le.new (o := .lst ys) n1)).trans (Le.new (o := .ins (cNetPlay K) dx (playF q one (lockV s.lock) tl pl vb)) n2)
  refine ⟨_, t3, l3, dx, q, tl, pl, vb, ys, upd_same, g8.le l3, ?_, ?_, l3.dpAll g9, l3.dp g10⟩
  · rw [upd_ne ptl.symm, upd_ne g7, upd_same]
  · rw [upd_ne ppl.symm, upd_same]
section
variable {P : Program} {w : World} {K : PySem.W.Frag} {mg : Str → Option Value} {base : Heap} (T : Tx P K mg)
include T
def A_deeds (K : PySem.W.Frag) : List V → Hp → Pd → Prop := fun vs B R => ∃ sa v g rows n st k, vs = [.ref sa, v, .int (k : Nat)] ∧ SetAt K B sa g rows n ∧ Dp K B v (staD st) ∧ OkPly rows (plyOf st) ∧ k < st.people.length ∧ R = Pd.d K (.list ((handM rows (decide (g = "one")) (plyOf st) k).map .str))
theorem cal_deeds : C8.Cal P w K mg base 7 "deeds_of" (pureSp (A_deeds K)) [] :=
  cal_pure T.d_deeds_of T.g_deeds_of ⟨rfl, rfl, rfl, by decide +kernel, rfl, by decide +kernel, by decide +kernel⟩ (fun _ _ _ _ _ _ us hl => match us, hl with | [_, _, _], _ => rfl) (N := ["setting", "state", "k", "play"]) (ps := ["setting", "state", "k"]) (fun vs B R ⟨_, _, _, _, _, _, _, e, _⟩ => by rw [e]; rfl)
    fun cdv A0 outer s H0 E vs B H R D hr l ⟨sa, v, g, rows, n, st, kk, e, hs, hv, ok, hk, eR⟩ q1 q2 => by
      subst e
      subst eR
      have ⟨dx, fs, hs1, b, vn, ef, hb, hn⟩ := hs
      subst ef
      have ⟨dxb, fsb, hb1, hb2⟩ := hb
      refine cb_setW 3 (we_call (cal_play T) hr l (ea_cons (ev_name (i := 0) rfl) (ea_1 (ev_name (i := 1) rfl))) (Q := fun u H' => ∃ p tl pl B', u = .ref p ∧ Stp B H B' H' ∧ H p = none ∧ H tl = none ∧ H pl = none ∧ PlayX K B' H' p tl pl rows (decide (g = "one")) (plyOf st)) fun vs B2 H2 t2 hs2 => ?_) fun u H1 ⟨p, tl, pl, B1, eu, t1, n1, n2, n3, hx⟩ => ?_
      · obtain ⟨w1, w2, rfl, e1, e2⟩ := holds2 hs2
        have e1' : w1 = .ref sa := e1
        have e2' : w2 = v := e2
        subst e1' e2'
        exact ⟨sa, w2, B2, g, rows, n, st, rfl, t2.lo, hs.le t2.up, t2.up.dp hv, fun p tl pl B' H' t3 m1 m2 m3 hx => ⟨p, tl, pl, B', rfl, t2.trans t3, t2.same.free m1, t2.same.free m2, t2.same.free m3, hx⟩⟩
      subst eu
      obtain ⟨B2, t2, l2, hP⟩ := hx.own t1 n1 n2 n3
      refine ws_ifY (et_eqs (ev_prop (prp_way T) hr (ev_fld (ev_name (i := 0) rfl) (t2.up.ins hs1) T.c_Setting T.n_Setting_base rfl) (t2.up.ins hb1) fun B5 l5 => ⟨_, rfl, rfl⟩) ev_str rfl (by decide +kernel)) t2.lo fun H3 t3 => ?_
      have ⟨dx9, q9, tl9, pl9, vb9, ys9, hp9, _⟩ := hP
      refine ws_ret (P := Pd.d K (.list ((handM rows (decide (g = "one")) (plyOf st) kk).map .str))) (ev_meth (met_hand T) hr (ev_name (i := 3) rfl) hp9 rfl (ea_1 (ev_name (i := 2) rfl)) fun vs B4 l4 hs4 => ?_) (t2.lo.trans (le_of t3)) fun v' B' H' s4 p4 => q1 v' B' H' ((t2.trans (.keep t2.lo t3)).trans s4) p4
      obtain ⟨w1, rfl, e1⟩ := holds1 hs4
      exact ⟨p, rows, _, plyOf st, kk, by rw [show w1 = _ from e1], hP.le l4, ok, hk, rfl⟩
end
end K57

set_option Elab.async false
set_option linter.all false
set_option maxRecDepth 100000
set_option maxHeartbeats 4000000
/-! YL: rules.py, moves and steps. -/
namespace K57
open PySem PySem.Spec PyProof.Rows L2
/-- a state, or a fault -/
inductive Res where
  | st (s : Sta)
  | bad (k : Nat) (n : Str)
def resD : Res → PyData
  | .st s => staD s
  | .bad k n => itselfD k n
def isBad : Res → Bool
  | .st _ => false
  | .bad _ _ => true
theorem cal_pure' {P : Program} {w : World} {K : PySem.W.Frag} {mg : Str → Option Value} {base : Heap} {x y qual : Str} {st : Stmt} {f : Addr} {N ps : List Str} {k : Nat} {A : List V → Hp → Pd → Prop} (F : FdZ K y qual st [] [] f) (g : mg x = some (.ref f)) (S : FnScope N ps (defScope st)) (b : BindH ps y qual st) (len : ∀ vs B R, A vs B R → vs.length = ps.length) (body : BodyP P w K mg base N qual st f k A) : C8.Cal P w K mg base (k + 1) x (pureSp A) [] := by
  obtain ⟨fd, F⟩ := F
  exact ⟨f, fd, ps, [], fn_pure F S len body, g, F.kp, F.bindsN b, .nil⟩
theorem need_of {rows : List (Str × List Str)} {one : Bool} {s : Ply} {k : Nat} {z : Str × Int} (h : ("need" : Str) ∈ handM rows one s k) (hz : (s.people.getD k []).getLast? = some z) : 0 ≤ z.2 ∧ z.2 < ((lookN rows z.1).length : Int) := by
  unfold handM at h
  rw [hz] at h
  dsimp only at h
  split at h
  · exfalso
    unfold wantedM at h
    have e1 : ("need" : Str) ≠ "take" := by decide
    have e2 : ("need" : Str) ≠ "ask" := by decide
    have e3 : ("need" : Str) ≠ "own" := by decide
    split at h
    · exact e1 (List.mem_singleton.mp h)
    · split at h
      · exact e2 (List.mem_singleton.mp h)
      · split at h
        · cases h
        · exact e3 (List.mem_singleton.mp h)
  · split at h
    · exact ⟨by omega, by assumption⟩
    · exact absurd (List.mem_singleton.mp h) (by decide)
section
variable {P : Program} {w : World} {K : PySem.W.Frag} {mg : Str → Option Value} {base : Heap} (T : Tx P K mg)
include T
def A_fault (K : PySem.W.Frag) : List V → Hp → Pd → Prop := fun vs B R => ∃ v r, vs = [v] ∧ Dp K B v (resD r) ∧ R = Pd.v (.bl (isBad r))
theorem cal_fault : C8.Cal P w K mg base 1 "is_fault" (pureSp (A_fault K)) [] :=
  cal_pure T.d_is_fault T.g_is_fault ⟨rfl, rfl, rfl, by decide +kernel, rfl, by decide +kernel, by decide +kernel⟩ (fun _ _ _ _ _ _ us hl => match us, hl with | [_], _ => rfl) (N := ["state"]) (ps := ["state"]) (fun vs B R ⟨_, _, e, _⟩ => by rw [e]; rfl)
    fun cdv A0 outer s H0 E vs B H R D hr l ⟨v, r, e, hv, eR⟩ q1 q2 => by
      subst e
      subst eR
      refine ws_ret (P := Pd.v (.bl (isBad r))) ?_ l q1
      cases r with
      | st s =>
        refine ev_eq (ev_and (k := false) (j := true) (ev_isd (d := .tuple (s.made.map .str)) T.f_isinstance T.f_str (ed_ixT (ds := [.tuple (s.made.map .str), lockD s.lock, .tuple (s.people.map stackD)]) (ev_d (ev_name (i := 0) rfl) hv) ev_int (atI_nat (j := 0) rfl))) fun q => nomatch q) rfl
      | bad k n =>
        refine ev_eq (ev_and (k := true) (j := true) (ev_isd (d := .str "itself") T.f_isinstance T.f_str (ed_ixT (ds := [.str "itself", .int (k : Nat), .str n]) (ev_d (ev_name (i := 0) rfl) hv) ev_int (atI_nat (j := 0) rfl))) fun _ => ?_) rfl
        exact ev_in (q := He.ga K "FAULTS") (ev_sc (d := .str "itself") (ed_ixT (ds := [.str "itself", .int (k : Nat), .str n]) (ev_d (ev_name (i := 0) rfl) hv) ev_int (atI_nat (j := 0) rfl)) rfl) (P2 := Pd.v (.ref (He.ga K "FAULTS"))) (ev_glob rfl T.g_FAULTS rfl) (fun v H' _ e => ⟨_, e, .inr (T.t_FAULTS H')⟩) rfl (flat_str _) (by rw [inV_str]; decide +kernel)
def A_moves (K : PySem.W.Frag) : List V → Hp → Pd → Prop := fun vs B R => ∃ sa v g rows n r, vs = [.ref sa, v] ∧ SetAt K B sa g rows (n : Nat) ∧ Dp K B v (resD r) ∧ OkNet rows ∧ ((∃ st, r = .st st ∧ OkPly rows (plyOf st) ∧ st.people.length = n ∧ R = Pd.d K (.list ((movesM rows (decide (g = "one")) st).map moveD))) ∨ (isBad r = true ∧ R = Pd.d K (.list [])))
theorem cal_moves : C8.Cal P w K mg base 8 "moves_rules" (pureSp (A_moves K)) [] :=
  cal_pure' T.d_moves T.g_moves_rules ⟨rfl, rfl, rfl, by decide +kernel, rfl, by decide +kernel, by decide +kernel⟩ (fun _ _ _ _ _ _ us hl => match us, hl with | [_, _], _ => rfl) (N := ["setting", "state", "k", "deed"]) (ps := ["setting", "state"]) (fun vs B R ⟨_, _, _, _, _, _, e, _⟩ => by rw [e]; rfl)
    fun cdv A0 outer s H0 E vs B H R D hr l ⟨sa, v, g, rows, n, r, e, hs, hv, okn, hc⟩ q1 q2 => by
      subst e
      have ⟨dx, fs, hs1, b, vn, ef, hb, hn⟩ := hs
      refine ws_expr (P := Pd.v .non) (ev_call (cal_look_set T) hr (ea_1 (ev_name (i := 0) rfl)) fun vs B1 l1 h => ?_) l fun u B1 H1 t1 _ => ?_
      · obtain ⟨w1, rfl, e1⟩ := holds1 h
        exact ⟨sa, dx, fs, by rw [show w1 = _ from e1], l1.ins hs1, rfl⟩
      have hf : ∀ vs B2, Le B1 B2 → Holds [Pd.d K (resD r)] vs B2 → A_fault K vs B2 (Pd.v (.bl (isBad r))) := fun vs B2 l2 h => by
        obtain ⟨w1, rfl, e1⟩ := holds1 h
        exact ⟨w1, r, rfl, e1, rfl⟩
      rcases hc with ⟨st, er, ok, en, eR⟩ | ⟨eb, eR⟩
      · subst er
        subst eR
        refine ws_ifN (et_v (ev_call (cal_fault T) hr (ea_1 (ev_d (ev_name (i := 1) rfl) (t1.up.dp hv))) hf)) t1.lo fun H2 t2 => ?_
        have t12 : Stp B H B1 H2 := t1.trans (.keep t1.lo t2)
        refine ws_ret (P := Pd.d K (.list ((movesM rows (decide (g = "one")) st).map moveD))) (EvL.toD ?_) t12.lo fun v' B' H' s4 p4 => q1 v' B' H' (t12.trans s4) p4
        rw [← movesD, en]
        have l5 : ∀ k, (((handM rows (decide (g = "one")) (plyOf st) k).map PyData.str).map fun d => PyData.tuple [.int (k : Int), d]).length ≤ 5 := fun k => by
          rw [List.length_map, List.length_map]
          exact (hand_ok okn).1
        have hl4 := ok.l4
        have hl4' : n ≤ 4 := by rw [← en]; exact hl4
        refine gen_lc2 (j1 := 2) (j2 := 3) (n := n) (inn := fun k => (handM rows (decide (g = "one")) (plyOf st) k).map .str) (G := fun k d => .tuple [.int (k : Int), d]) rfl rfl rfl rfl T.f_range (by decide) (ev_prop (prp_hands T) hr (ev_name (i := 0) rfl) (t1.up.ins hs1) fun B5 l5 => ⟨sa, g, rows, n, rfl, hs.le (t1.up.trans l5), rfl⟩) (fun k hk B5 l5 s0 H9 C cl fp => ?_) (fun k hk d hd vd B5 l5 hvd s0 H9 C cl fp => ?_) ?_ rfl rfl rfl (by omega) (by intro _; rfl) (by intro _ _; rfl)
        · refine ev_call (cal_deeds T) hr (ea_cons (ev_name (i := 0) rfl) (ea_cons (ev_name (i := 1) rfl) (ea_1 (ev_name (i := 2) rfl)))) fun vs B6 l6 h => ?_
          obtain ⟨w1, w2, w3, rfl, e1, e2, e3⟩ := holds3 h
          exact ⟨sa, v, g, rows, n, st, k, by rw [show w1 = _ from e1, show w2 = _ from e2, show w3 = _ from e3], hs.le ((t1.up.trans l5).trans l6), ((t1.up.trans l5).trans l6).dp hv, ok, by rw [en]; exact hk, rfl⟩
        · exact ed_tup (ds := [.int (k : Int), d]) (ea_cons (ev_d (ev_name (i := 2) rfl) (.int _)) (ea_1 (ev_d (ev_name (i := 3) rfl) hvd))) (by simp)
        · have := flat_len (fun k => (((handM rows (decide (g = "one")) (plyOf st) k).map PyData.str).map fun d => PyData.tuple [.int (k : Int), d])) 5 l5 n
          omega
      · subst eR
        refine ws_ifY (et_v (ev_eq (ev_call (cal_fault T) hr (ea_1 (ev_d (ev_name (i := 1) rfl) (t1.up.dp hv))) hf) (by rw [eb]))) t1.lo fun H2 t2 => ?_
        exact ws_ret (P := Pd.d K (.list [])) ed_nilL (t1.lo.trans (le_of t2)) fun v' B' H' s4 p4 => q1 v' B' H' ((t1.trans (.keep t1.lo t2)).trans s4) p4
def A_form (K : PySem.W.Frag) : List V → Hp → Pd → Prop := fun vs B R => ∃ v q, vs = [v] ∧ Dp K B v (moveD q) ∧ R = Pd.v (.bl true)
theorem cal_form : C8.Cal P w K mg base 1 "has_form" (pureSp (A_form K)) [] :=
  cal_pure T.d_has_form T.g_has_form ⟨rfl, rfl, rfl, by decide +kernel, rfl, by decide +kernel, by decide +kernel⟩ (fun _ _ _ _ _ _ us hl => match us, hl with | [_], _ => rfl) (N := ["move"]) (ps := ["move"]) (fun vs B R ⟨_, _, e, _⟩ => by rw [e]; rfl)
    fun cdv A0 outer s H0 E vs B H R D hr l ⟨v, q, e, hv, eR⟩ q1 q2 => by
      subst e
      subst eR
      refine ws_ifN (et_w (ew_or (k := false) (j := false) ?_ fun _ => ew_or (k := false) (j := false) ?_ fun _ => ew_or1 ?_)) l fun H1 t1 => ?_
      · exact et_not (k := true) (et_v (ev_isd (d := moveD q) T.f_isinstance T.f_tuple (ev_d (ev_name (i := 0) rfl) hv)))
      · exact et_nes (ev_lenT (ds := [.int (q.1 : Int), .str q.2]) T.f_len (ev_d (ev_name (i := 0) rfl) hv)) ev_int rfl (by simp)
      · exact et_v (ev_isd (d := .int (q.1 : Int)) T.f_isinstance T.f_bool (ed_ixT (ds := [.int (q.1 : Int), .str q.2]) (ev_d (ev_name (i := 0) rfl) hv) ev_int (atI_nat (j := 0) rfl)))
      refine ws_ret (P := Pd.v (.bl true)) ?_ (l.trans (le_of t1)) fun v' B' H' s4 p4 => q1 v' B' H' ((Stp.keep l t1).trans s4) p4
      exact ev_and (k := true) (j := true) (ev_isd (d := .int (q.1 : Int)) T.f_isinstance T.f_int (ed_ixT (ds := [.int (q.1 : Int), .str q.2]) (ev_d (ev_name (i := 0) rfl) hv) ev_int (atI_nat (j := 0) rfl))) fun _ => ev_isd (d := .str q.2) T.f_isinstance T.f_str (ed_ixT (ds := [.int (q.1 : Int), .str q.2]) (ev_d (ev_name (i := 0) rfl) hv) ev_int (atI_nat (j := 1) rfl))
def A_poss (K : PySem.W.Frag) : List V → Hp → Pd → Prop := fun vs B R => ∃ sa v m g rows n st q, vs = [.ref sa, v, m] ∧ SetAt K B sa g rows (n : Nat) ∧ Dp K B v (staD st) ∧ Dp K B m (moveD q) ∧ OkPly rows (plyOf st) ∧ st.people.length = n ∧ q ∈ movesM rows (decide (g = "one")) st ∧ R = Pd.v (.bl true)
theorem cal_poss : C8.Cal P w K mg base 9 "is_possible" (pureSp (A_poss K)) [] :=
  cal_pure T.d_is_possible T.g_is_possible ⟨rfl, rfl, rfl, by decide +kernel, rfl, by decide +kernel, by decide +kernel⟩ (fun _ _ _ _ _ _ us hl => match us, hl with | [_, _, _], _ => rfl) (N := ["setting", "state", "move"]) (ps := ["setting", "state", "move"]) (fun vs B R ⟨_, _, _, _, _, _, _, _, e, _⟩ => by rw [e]; rfl)
    fun cdv A0 outer s H0 E vs B H R D hr l ⟨sa, v, m, g, rows, n, st, q, e, hs, hv, hm, ok, en, hq, eR⟩ q1 q2 => by
      subst e
      subst eR
      refine ws_ret (P := Pd.v (.bl true)) ?_ l q1
      refine ev_and (k := true) (j := true) (ev_call (cal_form T) hr (ea_1 (ev_d (ev_name (i := 2) rfl) hm)) fun vs B2 l2 h => ?_) fun _ => ?_
      · obtain ⟨w1, rfl, e1⟩ := holds1 h
        exact ⟨w1, q, rfl, e1, rfl⟩
      · have okm : ∀ x ∈ movesM rows (decide (g = "one")) st, okName x.2 = true := fun x hx => (hand_ok ok.net).2 _ (mem_moves.mp hx).2
        refine ev_cmp (op_inD (by have := hr.un; omega)) (ev_d (ev_name (i := 2) rfl) hm) (ev_call (R := Pd.d K (.list ((movesM rows (decide (g = "one")) st).map moveD))) (cal_moves T) hr (ea_cons (ev_name (i := 0) rfl) (ea_1 (ev_name (i := 1) rfl))) fun vs B2 l2 h => ?_) (fun v1 v2 B5 H5 lb l5 p1 p2 Q qq => ⟨moveD q, _, l5.dp p1, l5.dp p2, shaped1 (okm q hq), shapedM okm, qq _ B5 _ (.refl l5) (by
          show V.bl _ = V.bl true
          rw [any_move, decide_eq_true hq])⟩) rfl
        obtain ⟨w1, w2, rfl, e1, e2⟩ := holds2 h
        exact ⟨sa, v, g, rows, n, .st st, by rw [show w1 = _ from e1, show w2 = _ from e2], hs.le l2, l2.dp hv, ok.net, .inl ⟨st, rfl, ok, en, rfl⟩⟩
/-- what a move leads to -/
def stepM (rows : List (Str × List Str)) (one : Bool) (st : Sta) (q : Nat × Str) : Ply := doM rows one (plyOf st) q.1 q.2
def StepOk (rows : List (Str × List Str)) (one : Bool) (st : Sta) (q : Nat × Str) (r : Res) : Prop := OkPly rows (stepM rows one st q) ∧ (((stepM rows one st q).bad = .none ∧ r = .st (stepM rows one st q).sta) ∨ ∃ k n, (stepM rows one st q).bad = itselfD k n ∧ r = .bad k n)
def A_behind (K : PySem.W.Frag) : List V → Hp → Pd → Prop := fun vs B R => ∃ sa v m g rows n st q r, vs = [.ref sa, v, m] ∧ SetAt K B sa g rows (n : Nat) ∧ Dp K B v (staD st) ∧ Dp K B m (moveD q) ∧ OkPly rows (plyOf st) ∧ st.people.length = n ∧ q ∈ movesM rows (decide (g = "one")) st ∧ st.made.length < 60 ∧ StepOk rows (decide (g = "one")) st q r ∧ R = Pd.d K (resD r)
theorem cal_behind : C8.Cal P w K mg base 7 "behind" (pureSp (A_behind K)) [] :=
  cal_pure T.d_behind T.g_behind ⟨rfl, rfl, rfl, by decide +kernel, rfl, by decide +kernel, by decide +kernel⟩ (fun _ _ _ _ _ _ us hl => match us, hl with | [_, _, _], _ => rfl) (N := ["setting", "state", "move", "play"]) (ps := ["setting", "state", "move"]) (fun vs B R ⟨_, _, _, _, _, _, _, _, _, e, _⟩ => by rw [e]; rfl)
    fun cdv A0 outer s H0 E vs B H R D hr l ⟨sa, v, m, g, rows, n, st, q, r, e, hs, hv, hm, ok, en, hq, h60, ⟨ok2, hres⟩, eR⟩ q1 q2 => by
      subst e
      subst eR
      have hq' := mem_moves.mp hq
      refine cb_setW 3 (we_call (cal_play T) hr l (ea_cons (ev_name (i := 0) rfl) (ea_1 (ev_name (i := 1) rfl))) (Q := fun u H' => ∃ p tl pl B', u = .ref p ∧ Stp B H B' H' ∧ H p = none ∧ H tl = none ∧ H pl = none ∧ PlayX K B' H' p tl pl rows (decide (g = "one")) (plyOf st)) fun vs B2 H2 t2 hs2 => ?_) fun u H1 ⟨p, tl, pl, B1, eu, t1, n1, n2, n3, hx⟩ => ?_
      · obtain ⟨w1, w2, rfl, e1, e2⟩ := holds2 hs2
        have e1' : w1 = .ref sa := e1
        have e2' : w2 = v := e2
        subst e1' e2'
        exact ⟨sa, w2, B2, g, rows, n, st, rfl, t2.lo, hs.le t2.up, t2.up.dp hv, fun p tl pl B' H' t3 m1 m2 m3 hx => ⟨p, tl, pl, B', rfl, t2.trans t3, t2.same.free m1, t2.same.free m2, t2.same.free m3, hx⟩⟩
      subst eu
      have hm1 : Dp K B1 m (moveD q) := t1.up.dp hm
      have ⟨dx9, q9, vb9, ys9, hp9, _⟩ := hx
      refine ws_exprW (we_meth (met_do T) hr (fun B' => (ev_name (i := 3) rfl)) hp9 rfl hx.le (ea_cons (P := Pd.v (.int (q.1 : Int))) (ev_sc (d := .int (q.1 : Int)) (ed_ixT (ds := [.int (q.1 : Int), .str q.2]) (ev_d (ev_name (i := 2) rfl) hm1) ev_int (atI_nat (j := 0) rfl)) rfl) (ea_1 (P := Pd.v (.str q.2)) (ev_sc (d := .str q.2) (ed_ixT (ds := [.int (q.1 : Int), .str q.2]) (ev_d (ev_name (i := 2) rfl) hm1) ev_int (atI_nat (j := 1) rfl)) rfl))) (Q := fun u H' => ∃ B', Stp B H B' H' ∧ PlayX K B' H' p tl pl rows (decide (g = "one")) (stepM rows (decide (g = "one")) st q)) fun vs B2 H2 t2 hs2 => ?_) fun u H3 ⟨B3, t3, hx3⟩ => ?_
      · obtain ⟨w1, w2, rfl, e1, e2⟩ := holds2 hs2
        have hx2 := hx.step t2
        refine ⟨p, tl, pl, rows, _, plyOf st, B2, q.1, q.2, by rw [show w1 = _ from e1, show w2 = _ from e2], hx2, ok, hq'.1, fun z hz hd => need_of (by rw [← hd]; exact hq'.2) hz, fun _ => h60, fun B' H' t3 hx3 => ⟨B', (t1.trans t2).ownS t3 fun x hx => ?_, hx3⟩⟩
        simp only [List.mem_cons, List.mem_nil_iff, or_false] at hx
        rcases hx with rfl | rfl | rfl
        · exact n1
        · exact n2
        · exact n3
      obtain ⟨B4, t4, l4, hP⟩ := hx3.own t3 n1 n2 n3
      have ⟨dx5, q5, tl5, pl5, vb5, ys5, hp5, _⟩ := hP
      refine ws_ret (P := Pd.d K (resD r)) (ev_meth0 (met_state T) hr (ev_name (i := 3) rfl) hp5 rfl fun B5 l5 => ⟨p, rows, _, stepM rows (decide (g = "one")) st q, rfl, hP.le l5, ok2, ?_⟩) t4.lo fun v' B' H' s4 p4 => q1 v' B' H' (t4.trans s4) p4
      rcases hres with ⟨hb, er⟩ | ⟨k, n', hb, er⟩
      · exact .inl ⟨hb, by rw [er]; rfl⟩
      · exact .inr ⟨_, hb, by rw [er, hb]; rfl⟩
theorem cal_step : C8.Cal P w K mg base 10 "step" (pureSp (A_behind K)) [] :=
  cal_pure T.d_step T.g_step ⟨rfl, rfl, rfl, by decide +kernel, rfl, by decide +kernel, by decide +kernel⟩ (fun _ _ _ _ _ _ us hl => match us, hl with | [_, _, _], _ => rfl) (N := ["setting", "state", "move"]) (ps := ["setting", "state", "move"]) (fun vs B R ⟨_, _, _, _, _, _, _, _, _, e, _⟩ => by rw [e]; rfl)
    fun cdv A0 outer s H0 E vs B H R D hr l ⟨sa, v, m, g, rows, n, st, q, r, e, hs, hv, hm, ok, en, hq, h60, hres, eR⟩ q1 q2 => by
      subst e
      subst eR
      have ⟨dx, fs, hs1, _⟩ := hs
      refine ws_expr (P := Pd.v .non) (ev_call (cal_look_set T) hr (ea_1 (ev_name (i := 0) rfl)) fun vs B1 l1 h => ?_) l fun u B1 H1 t1 _ => ?_
      · obtain ⟨w1, rfl, e1⟩ := holds1 h
        exact ⟨sa, dx, fs, by rw [show w1 = _ from e1], l1.ins hs1, rfl⟩
      refine ws_ifN (et_not (k := true) (et_v (ev_call (cal_poss T) hr (ea_cons (ev_name (i := 0) rfl) (ea_cons (ev_name (i := 1) rfl) (ea_1 (ev_name (i := 2) rfl)))) fun vs B2 l2 h => ?_))) t1.lo fun H2 t2 => ?_
      · obtain ⟨w1, w2, w3, rfl, e1, e2, e3⟩ := holds3 h
        exact ⟨sa, v, m, g, rows, n, st, q, by rw [show w1 = _ from e1, show w2 = _ from e2, show w3 = _ from e3], hs.le (t1.up.trans l2), (t1.up.trans l2).dp hv, (t1.up.trans l2).dp hm, ok, en, hq, rfl⟩
      refine ws_ret (P := Pd.d K (resD r)) (ev_call (cal_behind T) hr (ea_cons (ev_name (i := 0) rfl) (ea_cons (ev_name (i := 1) rfl) (ea_1 (ev_name (i := 2) rfl)))) fun vs B2 l2 h => ?_) (t1.lo.trans (le_of t2)) fun v' B' H' s4 p4 => q1 v' B' H' ((t1.trans (.keep t1.lo t2)).trans s4) p4
      obtain ⟨w1, w2, w3, rfl, e1, e2, e3⟩ := holds3 h
      exact ⟨sa, v, m, g, rows, n, st, q, r, by rw [show w1 = _ from e1, show w2 = _ from e2, show w3 = _ from e3], hs.le (t1.up.trans l2), (t1.up.trans l2).dp hv, (t1.up.trans l2).dp hm, ok, en, hq, h60, hres, rfl⟩
theorem cal_first_state : C8.Cal P w K mg base 4 "first_state" (pureSp (A_first K)) [] :=
  cal_pure T.d_first_state T.g_first_state ⟨rfl, rfl, rfl, by decide +kernel, rfl, by decide +kernel, by decide +kernel⟩ (fun _ _ _ _ _ _ us hl => match us, hl with | [_], _ => rfl) (N := ["setting", "way"]) (ps := ["setting"]) (fun vs B R ⟨_, _, _, _, e, _⟩ => by rw [e]; rfl)
    fun cdv A0 outer s H0 E vs B H R D hr l ⟨sa, g, rows, n, e, hs, h1, h4, eR⟩ q1 q2 => by
      subst e
      subst eR
      have ⟨dx, fs, hs1, b, vn, ef, hb, hn⟩ := hs
      subst ef
      have ⟨dxb, fsb, hb1, hb2⟩ := hb
      refine ws_expr (P := Pd.v .non) (ev_call (cal_look_set T) hr (ea_1 (ev_name (i := 0) rfl)) fun vs B1 l1 h => ?_) l fun u B1 H1 t1 _ => ?_
      · obtain ⟨w1, rfl, e1⟩ := holds1 h
        exact ⟨sa, dx, _, by rw [show w1 = _ from e1], l1.ins hs1, rfl⟩
      refine cb_set 1 (P1 := Pd.v (.str "net")) (ev_prop (prp_way T) hr (ev_fld (ev_name (i := 0) rfl) (t1.up.ins hs1) T.c_Setting T.n_Setting_base rfl) (t1.up.ins hb1) fun B2 l2 => ⟨_, rfl, rfl⟩) t1.lo fun u B2 H2 t2 eu => ?_
      have eu' : u = .str "net" := eu
      subst eu'
      have t12 := t1.trans t2
      refine ws_ifN (et_eqs (ev_name (i := 1) rfl) ev_str rfl (by decide +kernel)) t12.lo fun H3 t3 => ?_
      have t13 := t12.trans (.keep t12.lo t3)
      refine ws_ifN (et_eqs (ev_name (i := 1) rfl) ev_str rfl (by decide +kernel)) t13.lo fun H4 t4 => ?_
      have t14 := t13.trans (.keep t13.lo t4)
      refine ws_ret (P := Pd.d K (staD ⟨[], none, List.replicate n []⟩)) (ev_if (k := false) (et_eqs (ev_name (i := 1) rfl) ev_str rfl (by decide +kernel)) (fun q => nomatch q) fun _ => ev_call (cal_first T) hr (ea_1 (ev_name (i := 0) rfl)) fun vs B5 l5 h => ?_) t14.lo fun v' B' H' s4 p4 => q1 v' B' H' (t14.trans s4) p4
      obtain ⟨w1, rfl, e1⟩ := holds1 h
      exact ⟨sa, g, rows, n, by rw [show w1 = _ from e1], hs.le (t12.up.trans l5), h1, h4, rfl⟩
end
end K57

set_option Elab.async false
set_option linter.all false
set_option maxRecDepth 100000
set_option maxHeartbeats 4000000
/-! YM: benches.py. -/
namespace K57
open PySem PySem.Spec PyProof.Rows L2
def benchF (sa dl sl : Addr) : List (Str × V) := [(("setting" : Str), V.ref sa), (("done" : Str), V.ref dl), (("states" : Str), V.ref sl)]
/-- the bench, known -/
def BenchE (K : PySem.W.Frag) (B : Hp) (p dl sl : Addr) (g : Str) (rows : List (Str × List Str)) (n : Nat) (r : Res) (c : Nat) (dx sa : Addr) (ms ini : List V) (v : V) : Prop :=
  B p = some (.ins (cBench K) dx (benchF sa dl sl)) ∧ B dl = some (.lst ms) ∧ B sl = some (.lst (ini ++ [v])) ∧ SetAt K B sa g rows (n : Nat) ∧ Dp K B v (resD r) ∧ ms.length ≤ c ∧ ini.length ≤ c
def BenchAt (K : PySem.W.Frag) (B : Hp) (p : Addr) (g : Str) (rows : List (Str × List Str)) (n : Nat) (r : Res) : Prop := ∃ dl sl c dx sa ms ini v, BenchE K B p dl sl g rows n r c dx sa ms ini v
/-- the bench, not known: it may change -/
def BenchX (K : PySem.W.Frag) (B H : Hp) (p dl sl : Addr) (g : Str) (rows : List (Str × List Str)) (n : Nat) (r : Res) (c : Nat) : Prop := ∃ dx sa ms ini v,
  H p = some (.ins (cBench K) dx (benchF sa dl sl)) ∧ H dl = some (.lst ms) ∧ H sl = some (.lst (ini ++ [v])) ∧ B p = none ∧ B dl = none ∧ B sl = none ∧ dl ≠ sl ∧ SetAt K B sa g rows (n : Nat) ∧ Dp K B v (resD r) ∧ ms.length ≤ c ∧ ini.length ≤ c ∧ Le B H
section
variable {K : PySem.W.Frag} {B H B' H' : Hp} {p dl sl : Addr} {g : Str} {rows : List (Str × List Str)} {n c : Nat} {r : Res}
theorem BenchAt.le (e : Le H H') (h : BenchAt K H p g rows n r) : BenchAt K H' p g rows n r :=
  let ⟨dl, sl, c, dx, sa, ms, ini, v, h1, h2, h3, h4, h5, h6⟩ := h
  ⟨dl, sl, c, dx, sa, ms, ini, v, e.ins h1, e.lst h2, e.lst h3, h4.le e, e.dp h5, h6⟩
theorem BenchX.step (h : BenchX K B H p dl sl g rows n r c) (t : Stp B H B' H') : BenchX K B' H' p dl sl g rows n r c := by
  obtain ⟨dx, sa, ms, ini, v, h1, h2, h3, h4, h5, h6, h7, h8, h9, h10, h11, h12⟩ := h
  exact ⟨dx, sa, ms, ini, v, t.same _ _ h1, t.same _ _ h2, t.same _ _ h3, t.non _ h4 (by rw [h1]; simp), t.non _ h5 (by rw [h2]; simp), t.non _ h6 (by rw [h3]; simp), h7, h8.le t.up, t.up.dp h9, h10, h11, t.lo⟩
theorem BenchX.has (h : BenchX K B H p dl sl g rows n r c) : ∀ x ∈ [p, dl, sl], H x ≠ none := by
  obtain ⟨dx, sa, ms, ini, v, h1, h2, h3, _⟩ := h
  intro x hx
  simp only [List.mem_cons, List.mem_nil_iff, or_false] at hx
  rcases hx with rfl | rfl | rfl
  · rw [h1]; simp
  · rw [h2]; simp
  · rw [h3]; simp
theorem BenchX.le (h : BenchX K B H p dl sl g rows n r c) : Le B H := let ⟨_, _, _, _, _, _, _, _, _, _, _, _, _, _, _, _, l⟩ := h; l
theorem noL_res (r : Res) : noL (resD r) = true := by
  have hn : ∀ l : List Str, noLs (l.map .str) = true := fun l => by
    induction l with
    | nil => rfl
    | cons z t ih => rw [List.map_cons]; show (true && _) = true; rw [ih]; rfl
  have hs : ∀ l : List Stk, noLs (l.map stackD) = true := fun l => by
    induction l with
    | nil => rfl
    | cons z t ih => rw [List.map_cons]; show (noL (stackD z) && _) = true; rw [ih, noL_stack]; rfl
  cases r with
  | st s =>
    show (noLs (s.made.map .str) && (noL (lockD s.lock) && (noLs (s.people.map stackD) && true))) = true
    rw [hn, hs]
    cases s.lock <;> rfl
  | bad k n => rfl
theorem BenchX.known (h : BenchX K B H p dl sl g rows n r c) : ∃ B2, Le B B2 ∧ Le B2 H ∧ (∃ dx sa ms ini v, BenchE K B2 p dl sl g rows n r c dx sa ms ini v) ∧
    ∀ B3 H3, Stp B2 H B3 H3 → ∃ B', Stp B H B' H3 ∧ BenchX K B' H3 p dl sl g rows n r c ∧ ∀ v d, noL d = true → Dp K B3 v d → Dp K B' v d := by
  have hx := h
  obtain ⟨dx, sa, ms, ini, v, h1, h2, h3, h4, h5, h6, h7, h8, h9, h10, h11, h12⟩ := h
  have ptl : p ≠ dl := fun e => by rw [e, h2] at h1; cases h1
  have ppl : p ≠ sl := fun e => by rw [e, h3] at h1; cases h1
  have n1 : upd B dl (.lst ms) sl = none := by rw [upd_ne h7.symm]; exact h6
  have n2 : upd (upd B dl (.lst ms)) sl (.lst (ini ++ [v])) p = none := by rw [upd_ne ppl, upd_ne ptl]; exact h4
  have l1 : Le B (upd B dl (.lst ms)) := Le.new h5
  have l2 : Le B (upd (upd B dl (.lst ms)) sl (.lst (ini ++ [v]))) := l1.trans (Le.new n1)
  have l3 := l2.trans (Le.new (o := .ins (cBench K) dx (benchF sa dl sl)) n2)
  refine ⟨upd (upd (upd B dl (.lst ms)) sl (.lst (ini ++ [v]))) p (.ins (cBench K) dx (benchF sa dl sl)), l3, le_put (le_put (le_put h12 h2) h3) h1, ⟨dx, sa, ms, ini, v, upd_same, ?_, ?_, h8.le l3, l3.dp h9, h10, h11⟩, fun B3 H3 t => ?_⟩
  · rw [upd_ne ptl.symm, upd_ne h7, upd_same]
  · rw [upd_ne ppl.symm, upd_same]
  · have b1 : B3 p = some (.ins (cBench K) dx (benchF sa dl sl)) := t.up.ins upd_same
    have b2 : B3 sl = some (.lst (ini ++ [v])) := t.up.lst (by rw [upd_ne ppl.symm, upd_same])
    have b3 : B3 dl = some (.lst ms) := t.up.lst (by rw [upd_ne ptl.symm, upd_ne h7, upd_same])
    have t3 := ((t.dropO n2).dropO n1).dropO h5
    refine ⟨_, t3, hx.step t3, fun u d hd hv => ?_⟩
    exact dp_cut (o := .lst ms) (by rw [cutP_ne h7, cutP_ne ptl.symm]; exact b3) (fun xs => ⟨by simp, by simp⟩) hd (dp_cut (o := .lst (ini ++ [v])) (by rw [cutP_ne ppl.symm]; exact b2) (fun xs => ⟨by simp, by simp⟩) hd (dp_cut b1 (fun xs => ⟨by simp, by simp⟩) hd hv))
/-- a move, put down -/
theorem BenchX.add (h : BenchX K B H p dl sl g rows n r c) (m : V) {w : V} {r' : Res} (hw : Dp K B w (resD r')) : ∃ ms ini v, H dl = some (.lst ms) ∧ H sl = some (.lst (ini ++ [v])) ∧ dl ≠ sl ∧ ms.length ≤ c ∧ ini.length ≤ c ∧
    ∀ H2, Same (upd H dl (.lst (ms ++ [m]))) H2 → StpX [p, dl, sl] B H B (upd H2 sl (.lst ((ini ++ [v]) ++ [w]))) ∧ BenchX K B (upd H2 sl (.lst ((ini ++ [v]) ++ [w]))) p dl sl g rows n r' (c + 1) := by
  obtain ⟨dx, sa, ms, ini, v, h1, h2, h3, h4, h5, h6, h7, h8, h9, h10, h11, h12⟩ := h
  have ptl : p ≠ dl := fun e => by rw [e, h2] at h1; cases h1
  have ppl : p ≠ sl := fun e => by rw [e, h3] at h1; cases h1
  refine ⟨ms, ini, v, h2, h3, h7, h10, h11, fun H2 t => ?_⟩
  have s1 : StpX [p, dl, sl] B H B (upd H dl (.lst (ms ++ [m]))) := (StpX.refl h12).after (by simp) h5 (by rw [h2]; simp)
  have s2 := (s1.step t).after (p := sl) (o := .lst ((ini ++ [v]) ++ [w])) (by simp) h6 (by rw [h3]; simp)
  refine ⟨s2, dx, sa, ms ++ [m], ini ++ [v], w, ?_, ?_, upd_same, h4, h5, h6, h7, h8, hw, by rw [List.length_append, List.length_singleton]; omega, by rw [List.length_append, List.length_singleton]; omega, s2.lo⟩
  · rw [upd_ne ppl]
    exact t _ _ (by rw [upd_ne ptl]; exact h1)
  · rw [upd_ne h7]
    exact t _ _ upd_same
end
section
variable {X : Cx} {e : Expr} {σ : L2.St} {B H : Hp} {pos : Pos} {P : Pd}
/-- [e], told by its place -/
theorem we_lst1 (h : EvP X e σ B P) (l : Le B H) (he : starEach [e] X.env = (false, eval e X.env) :: starEach [] X.env := by rfl) : WE X (.List [e] pos) σ H (fun v H' => ∃ a v1 B2 H2, v = .ref a ∧ Stp B H B2 H2 ∧ P.p v1 B2 ∧ H2 a = none ∧ H' = upd H2 a (.lst [v1])) := by
  obtain ⟨t, pt, ka⟩ := ea_1 h he
  refine .of (pe_lst pt) (ka H l _ fun vs B2 H2 s hs => ?_)
  obtain ⟨v1, rfl, p1⟩ := holds1 hs
  exact ⟨by show 1 ≤ sizeLine; decide, fun a ha => ⟨a, v1, B2, H2, rfl, s, p1, ha, rfl⟩⟩
theorem we_nil : WE X (.List [] pos) σ H (fun v H' => ∃ a, v = .ref a ∧ H a = none ∧ H' = upd H a (.lst [])) := .of (pe_lst pa_nil) ⟨by decide, fun p hp => ⟨p, rfl, hp, rfl⟩⟩
end
/-- the promise of Bench's __init__ -/
def spBench (K : PySem.W.Frag) : Sp := fun vs H Q _ => ∃ p dx sa B g rows n, vs = [.ref p, .ref sa] ∧ H p = some (.ins (cBench K) dx []) ∧ B p = none ∧ Le B H ∧ SetAt K B sa g rows (n : Nat) ∧ 1 ≤ n ∧ n ≤ 4 ∧
  ∀ B' H' dl sl, StpX [p] B H B' H' → H dl = none → H sl = none → BenchX K B' H' p dl sl g rows n (.st ⟨[], none, List.replicate n []⟩) 0 → Q .non H'
section
variable {P : Program} {w : World} {K : PySem.W.Frag} {mg : Str → Option Value} {base : Heap} (T : Tx P K mg)
include T
theorem mak_Bench : C8.Mak P w K mg base 5 "Bench" (cBench K) (spBench K) [] := by
  obtain ⟨fd, F⟩ := T.d_Bench_init
  refine ⟨_, fd, ["self", "setting"], [], T.k_Bench, fn_w F (N := ["self", "setting"]) ⟨rfl, rfl, rfl, by decide +kernel, rfl, by decide +kernel, by decide +kernel⟩ (fun vs H Q E ⟨_, _, _, _, _, _, _, e, _⟩ => by rw [e]; rfl) ?_, T.g_Bench, F.bindsN (fun _ _ _ _ _ _ us hl => match us, hl with | [_, _], _ => rfl), .nil⟩
  intro cdv A0 outer s0 H0 vs H Q E hr ⟨p, dx, sa, B, g, rows, n, e, hp, hBp, l, hs, h1, h4, fin⟩
  subst e
  have ⟨dxs, fss, hs1, _⟩ := hs
  have hpn : H p ≠ none := by rw [hp]; simp
  refine ws_expr (P := Pd.v .non) (ev_call (cal_look_set T) hr (ea_1 (ev_name (i := 1) rfl)) fun vs B1 l1 h => ?_) l fun u B1 H1 t1 _ => ?_
  · obtain ⟨w1, rfl, e1⟩ := holds1 h
    exact ⟨sa, dxs, fss, by rw [show w1 = _ from e1], l1.ins hs1, rfl⟩
  have x1 : StpX [p] B H B H1 := (StpX.refl l).step t1.same
  refine ws_fld (P := Pd.v (.ref sa)) (ev_name (i := 1) rfl) x1.lo (fun s => (ev_name (i := 0) rfl)) (t1.same _ _ hp) T.c_Bench T.n_Bench_setting (by decide) fun u B2 H2 t2 eu hp2 => ?_
  have eu' : u = .ref sa := eu
  subst eu'
  have x2 : StpX [p] B H B (upd H2 p (.ins (cBench K) dx [(("setting" : Str), V.ref sa)])) := (x1.step t2.same).after (List.mem_singleton.mpr rfl) hBp hpn
  refine ws_fldW (p := p) we_nil (ev_name (i := 0) rfl) T.c_Bench T.n_Bench_done fun u H3 ⟨dl, eu, n3, e3⟩ => ?_
  subst eu e3
  have pdl : p ≠ dl := fun e => by rw [← e, upd_same] at n3; cases n3
  have hBdl : B dl = none := le_none x2.lo n3
  have hHdl : H dl = none := by
    cases ho : H dl with
    | none => rfl
    | some o =>
      have h9 := x2.same dl o (fun h => pdl (List.mem_singleton.mp h).symm) ho
      exact absurd (h9.symm.trans n3) (by simp)
  have x3 := x2.step (same_new (o := .lst []) n3)
  refine ⟨dx, _, by rw [upd_ne pdl]; exact upd_same, by show 1 < 100; decide, fun H4 t4 => ?_⟩
  have x4 : StpX [p] B H B (upd H4 p (.ins (cBench K) dx [(("setting" : Str), V.ref sa), (("done" : Str), V.ref dl)])) := (x3.step t4).after (List.mem_singleton.mpr rfl) hBp hpn
  have hdl4 : upd H4 p (.ins (cBench K) dx [(("setting" : Str), V.ref sa), (("done" : Str), V.ref dl)]) dl = some (.lst []) := by rw [upd_ne pdl.symm]; exact t4 _ _ upd_same
  refine ws_fldW (p := p) (we_lst1 (B := B) (P := Pd.d K (staD ⟨[], none, List.replicate n []⟩)) (ev_call (cal_first_state T) hr (ea_1 (ev_name (i := 1) rfl)) fun vs B1 l1 h => ?_) x4.lo) (ev_name (i := 0) rfl) T.c_Bench T.n_Bench_states fun u H5 ⟨sl, v1, B5, H5', eu, t5, hv, n5, e5⟩ => ?_
  · obtain ⟨w1, rfl, e1⟩ := holds1 h
    exact ⟨sa, g, rows, n, by rw [show w1 = _ from e1], hs.le l1, h1, h4, rfl⟩
  subst eu e5
  have hp5 : H5' p = _ := t5.same _ _ upd_same
  have hdl5 := t5.same _ _ hdl4
  have psl : p ≠ sl := fun e => by rw [e] at hp5; rw [hp5] at n5; cases n5
  have dsl : dl ≠ sl := fun e => by rw [e] at hdl5; rw [hdl5] at n5; cases n5
  have x5 : StpX [p] B H B5 H5' := x4.trans t5.x fun x hx => by rw [List.mem_singleton.mp hx, upd_same]; simp
  have hBsl : B5 sl = none := le_none x5.lo n5
  have hHsl : H sl = none := by
    cases ho : H sl with
    | none => rfl
    | some o =>
      have h9 := x5.same sl o (fun h => psl (List.mem_singleton.mp h).symm) ho
      exact absurd (h9.symm.trans n5) (by simp)
  have hB5dl : B5 dl = none := t5.non dl hBdl (fun e => absurd (hdl4.symm.trans e) (by simp))
  have hB5p : B5 p = none := x5.non p hBp hpn
  have x6 := x5.step (same_new (o := .lst [v1]) n5)
  refine ⟨dx, _, by rw [upd_ne psl]; exact hp5, by show 2 < 100; decide, fun H6 t6 => ?_⟩
  have x7 : StpX [p] B H B5 (upd H6 p (.ins (cBench K) dx (benchF sa dl sl))) := (x6.step t6).after (List.mem_singleton.mpr rfl) hBp hpn
  refine ws_nil (fin B5 _ dl sl x7 hHdl hHsl ⟨dx, sa, [], [], v1, upd_same, ?_, ?_, hB5p, hB5dl, hBsl, dsl, hs.le t5.up, hv, Nat.le_refl _, Nat.le_refl _, x7.lo⟩)
  · rw [upd_ne pdl.symm]
    refine t6 _ _ ?_
    rw [upd_ne dsl]
    exact hdl5
  · rw [upd_ne psl.symm]
    exact t6 _ _ upd_same
end
end K57

set_option Elab.async false
set_option linter.all false
set_option maxRecDepth 100000
set_option maxHeartbeats 4000000
/-! YN: benches.py, the rest. -/
namespace K57
open PySem PySem.Spec PyProof.Rows L2
/-- the promise of bench(move) -/
def spCallB (K : PySem.W.Frag) : Sp := fun vs H Q _ => ∃ p m B dl sl g rows n st c q r, vs = [.ref p, m] ∧ BenchX K B H p dl sl g rows n (.st st) c ∧ c < 90000 ∧ Dp K B m (moveD q) ∧ OkPly rows (plyOf st) ∧ st.people.length = n ∧ q ∈ movesM rows (decide (g = "one")) st ∧ st.made.length < 60 ∧ StepOk rows (decide (g = "one")) st q r ∧
  ∀ v B' H', StpX [p, dl, sl] B H B' H' → BenchX K B' H' p dl sl g rows n r (c + 1) → Q v H'
section
variable {K : PySem.W.Frag} {B : Hp} {p : Addr} {g : Str} {rows : List (Str × List Str)} {n : Nat} {r : Res}
end
section
variable {P : Program} {w : World} {K : PySem.W.Frag} {mg : Str → Option Value} {base : Heap} (T : Tx P K mg)
include T
def A_handof (K : PySem.W.Frag) : List V → Hp → Pd → Prop := fun vs B R => ∃ sa v g rows n st k, vs = [.ref sa, v, .int (k : Nat)] ∧ SetAt K B sa g rows n ∧ Dp K B v (staD st) ∧ k < st.people.length ∧ R = Pd.d K (stackD (st.people.getD k []))
theorem cal_handof : C8.Cal P w K mg base 3 "hand_of" (pureSp (A_handof K)) [] :=
  cal_pure T.d_hand_of T.g_hand_of ⟨rfl, rfl, rfl, by decide +kernel, rfl, by decide +kernel, by decide +kernel⟩ (fun _ _ _ _ _ _ us hl => match us, hl with | [_, _, _], _ => rfl) (N := ["setting", "state", "k"]) (ps := ["setting", "state", "k"]) (fun vs B R ⟨_, _, _, _, _, _, _, e, _⟩ => by rw [e]; rfl)
    fun cdv A0 outer s H0 E vs B H R D hr l ⟨sa, v, g, rows, n, st, k, e, hs, hv, hk, eR⟩ q1 q2 => by
      subst e
      subst eR
      have ⟨dx, fs, hs1, b, vn, ef, hb, hn⟩ := hs
      subst ef
      have ⟨dxb, fsb, hb1, hb2⟩ := hb
      refine ws_ifY (et_nes (ev_prop (prp_way T) hr (ev_fld (ev_name (i := 0) rfl) hs1 T.c_Setting T.n_Setting_base rfl) hb1 fun B5 l5 => ⟨_, rfl, rfl⟩) ev_str rfl (by decide +kernel)) l fun H1 t1 => ?_
      refine ws_ret (P := Pd.d K (stackD (st.people.getD k []))) ?_ (l.trans (le_of t1)) fun v' B' H' s4 p4 => q1 v' B' H' ((Stp.keep l t1).trans s4) p4
      have hv' : Dp K B v (.tuple ([.tuple (st.made.map .str), lockD st.lock] ++ [.tuple (st.people.map stackD)])) := hv
      refine ed_ixT (ds := st.people.map stackD) (ed_ixT (ev_d (ev_name (i := 1) rfl) hv') (ev_neg ev_int) (atI_last _ _)) (ev_name (i := 2) rfl) (atI_nat ?_)
      rw [List.getElem?_map, List.getD_eq_getElem?_getD, List.getElem?_eq_getElem hk]
      rfl
def A_bget (K : PySem.W.Frag) : List V → Hp → Pd → Prop := fun vs B R => ∃ p g rows n st k, vs = [.ref p, .int (k : Nat)] ∧ BenchAt K B p g rows n (.st st) ∧ st.people.length = n ∧ k < n ∧ R = Pd.d K (stackD (st.people.getD k []))
theorem fn_bget : ∃ fd, FnOk P w K mg base CX0 4 (He.ma K (cBench K) "__getitem__") fd ["self", "hand"] (pureSp (A_bget K)) ∧ Binds K fd ["self", "hand"] [] := by
  obtain ⟨fd, F⟩ := T.d_Bench_getitem
  refine ⟨fd, fn_pure F (N := ["self", "hand"]) ⟨rfl, rfl, rfl, by decide +kernel, rfl, by decide +kernel, by decide +kernel⟩ (fun vs B R ⟨_, _, _, _, _, _, e, _⟩ => by rw [e]; rfl) ?_, F.bindsN (fun _ _ _ _ _ _ us hl => match us, hl with | [_, _], _ => rfl)⟩
  intro cdv A0 outer s H0 E vs B H R D hr l ⟨p, g, rows, n, st, k, e, ⟨dl, sl, c, dx, sa, ms, ini, v, h1, h2, h3, hs, h5, _⟩, en, hk, eR⟩ q1 q2
  subst e
  subst eR
  have ⟨dxs, fss, hs1, _⟩ := hs
  refine ws_ifN (et_not (k := true) (et_v (ev_call (cal_is_number T) hr (ea_cons (ev_name (i := 1) rfl) (ea_cons ev_int (ea_1 (ev_sub (ev_prop (prp_hands T) hr (ev_fld (ev_name (i := 0) rfl) h1 T.c_Bench T.n_Bench_setting rfl) hs1 fun B2 l2 => ⟨sa, g, rows, n, rfl, hs.le l2, rfl⟩) ev_int)))) fun vs B2 l2 h => ?_))) l fun H1 t1 => ?_
  · obtain ⟨w1, w2, w3, rfl, e1, e2, e3⟩ := holds3 h
    refine ⟨_, _, _, by rw [show w1 = _ from e1, show w2 = _ from e2, show w3 = _ from e3], ?_⟩
    rw [decide_eq_true (by omega)]
  refine ws_ifN (et_v (ev_call (cal_fault T) hr (ea_1 (ev_d (ev_ixL (ev_fld (ev_name (i := 0) rfl) h1 T.c_Bench T.n_Bench_states rfl) (.of h3) (ev_neg ev_int) (atI_last _ _)) h5)) fun vs B2 l2 h => ?_)) (l.trans (le_of t1)) fun H2 t2 => ?_
  · obtain ⟨w1, rfl, e1⟩ := holds1 h
    exact ⟨w1, .st st, rfl, e1, rfl⟩
  refine ws_ret (P := Pd.d K (stackD (st.people.getD k []))) (ev_call (cal_handof T) hr (ea_cons (ev_fld (ev_name (i := 0) rfl) h1 T.c_Bench T.n_Bench_setting rfl) (ea_cons (ev_d (ev_ixL (ev_fld (ev_name (i := 0) rfl) h1 T.c_Bench T.n_Bench_states rfl) (.of h3) (ev_neg ev_int) (atI_last _ _)) h5) (ea_1 (ev_name (i := 1) rfl)))) fun vs B2 l2 h => ?_) (l.trans (le_of (t1.trans t2))) fun v' B' H' s4 p4 => q1 v' B' H' ((Stp.keep l (t1.trans t2)).trans s4) p4
  obtain ⟨w1, w2, w3, rfl, e1, e2, e3⟩ := holds3 h
  exact ⟨sa, w2, g, rows, n, st, k, by rw [show w1 = _ from e1, show w3 = _ from e3], hs.le l2, e2, by rw [en]; exact hk, rfl⟩
def A_bstate (K : PySem.W.Frag) : List V → Hp → Pd → Prop := fun vs B R => ∃ p g rows n r, vs = [.ref p] ∧ BenchAt K B p g rows n r ∧ R = Pd.d K (resD r)
theorem met_bstate : C8.Met P w K mg base 1 (cBench K) "state" (pureSp (A_bstate K)) [] :=
  met_pure T.d_Bench_state T.c_Bench T.m_Bench_state ⟨rfl, rfl, rfl, by decide +kernel, rfl, by decide +kernel, by decide +kernel⟩ (fun _ _ _ _ _ _ us hl => match us, hl with | [_], _ => rfl) (N := ["self"]) (ps := ["self"]) (fun vs B R ⟨_, _, _, _, _, e, _⟩ => by rw [e]; rfl)
    fun cdv A0 outer s H0 E vs B H R D hr l ⟨p, g, rows, n, r, e, ⟨dl, sl, c, dx, sa, ms, ini, v, h1, h2, h3, hs, h5, _⟩, eR⟩ q1 q2 => by
      subst e
      subst eR
      exact ws_ret (P := Pd.d K (resD r)) (ev_d (ev_ixL (ev_fld (ev_name (i := 0) rfl) h1 T.c_Bench T.n_Bench_states rfl) (.of h3) (ev_neg ev_int) (atI_last _ _)) h5) l q1
def A_bmoves (K : PySem.W.Frag) : List V → Hp → Pd → Prop := fun vs B R => ∃ p g rows n st, vs = [.ref p] ∧ BenchAt K B p g rows n (.st st) ∧ OkPly rows (plyOf st) ∧ st.people.length = n ∧ R = Pd.d K (.list ((movesM rows (decide (g = "one")) st).map moveD))
theorem met_bmoves : C8.Met P w K mg base 9 (cBench K) "moves" (pureSp (A_bmoves K)) [] :=
  met_pure T.d_Bench_moves T.c_Bench T.m_Bench_moves ⟨rfl, rfl, rfl, by decide +kernel, rfl, by decide +kernel, by decide +kernel⟩ (fun _ _ _ _ _ _ us hl => match us, hl with | [_], _ => rfl) (N := ["self"]) (ps := ["self"]) (fun vs B R ⟨_, _, _, _, _, e, _⟩ => by rw [e]; rfl)
    fun cdv A0 outer s H0 E vs B H R D hr l ⟨p, g, rows, n, st, e, ⟨dl, sl, c, dx, sa, ms, ini, v, h1, h2, h3, hs, h5, _⟩, ok, en, eR⟩ q1 q2 => by
      subst e
      subst eR
      refine ws_ret (P := Pd.d K (.list ((movesM rows (decide (g = "one")) st).map moveD))) (ev_call (cal_moves T) hr (ea_cons (ev_fld (ev_name (i := 0) rfl) h1 T.c_Bench T.n_Bench_setting rfl) (ea_1 (ev_d (ev_ixL (ev_fld (ev_name (i := 0) rfl) h1 T.c_Bench T.n_Bench_states rfl) (.of h3) (ev_neg ev_int) (atI_last _ _)) h5))) fun vs B2 l2 h => ?_) l q1
      obtain ⟨w1, w2, rfl, e1, e2⟩ := holds2 h
      exact ⟨sa, w2, g, rows, n, .st st, by rw [show w1 = _ from e1], hs.le l2, e2, ok.net, .inl ⟨st, rfl, ok, en, rfl⟩⟩
def faultD : Res → PyData
  | .st _ => .none
  | .bad k n => itselfD k n
def A_bfault (K : PySem.W.Frag) : List V → Hp → Pd → Prop := fun vs B R => ∃ p g rows n r, vs = [.ref p] ∧ BenchAt K B p g rows n r ∧ R = Pd.d K (faultD r)
theorem prp_fault : Prp P w K mg base 2 (cBench K) "fault" (pureSp (A_bfault K)) := by
  obtain ⟨fd, F⟩ := T.d_Bench_fault
  refine ⟨_, _, fd, ["self"], T.c_Bench, T.p_Bench_fault, fn_pure F (N := ["self"]) ⟨rfl, rfl, rfl, by decide +kernel, rfl, by decide +kernel, by decide +kernel⟩ (fun vs B R ⟨_, _, _, _, _, e, _⟩ => by rw [e]; rfl) ?_, F.bindsN (fun _ _ _ _ _ _ us hl => match us, hl with | [_], _ => rfl)⟩
  intro cdv A0 outer s H0 E vs B H R D hr l ⟨p, g, rows, n, r, e, ⟨dl, sl, c, dx, sa, ms, ini, v, h1, h2, h3, hs, h5, _⟩, eR⟩ q1 q2
  subst e
  subst eR
  refine ws_ret (P := Pd.d K (faultD r)) (ev_if (k := isBad r) (et_v (ev_call (cal_fault T) hr (ea_1 (ev_d (ev_ixL (ev_fld (ev_name (i := 0) rfl) h1 T.c_Bench T.n_Bench_states rfl) (.of h3) (ev_neg ev_int) (atI_last _ _)) h5)) fun vs B2 l2 h => ?_)) (fun hb => ?_) (fun hb => ?_)) l q1
  · obtain ⟨w1, rfl, e1⟩ := holds1 h
    exact ⟨w1, r, rfl, e1, rfl⟩
  · cases r with
    | st s => cases hb
    | bad k n => exact ev_d (ev_ixL (ev_fld (ev_name (i := 0) rfl) h1 T.c_Bench T.n_Bench_states rfl) (.of h3) (ev_neg ev_int) (atI_last _ _)) h5
  · cases r with
    | st s => exact ed_none
    | bad k n => cases hb
theorem fn_bcall : ∃ fd, FnOk P w K mg base CX0 11 (He.ma K (cBench K) "__call__") fd ["self", "move"] (spCallB K) ∧ Binds K fd ["self", "move"] [] := by
  obtain ⟨fd, F⟩ := T.d_Bench_call
  refine ⟨fd, fn_w F (N := ["self", "move", "later"]) ⟨rfl, rfl, rfl, by decide +kernel, rfl, by decide +kernel, by decide +kernel⟩ (fun vs H Q E ⟨_, _, _, _, _, _, _, _, _, _, _, _, e, _⟩ => by rw [e]; rfl) ?_, F.bindsN (fun _ _ _ _ _ _ us hl => match us, hl with | [_, _], _ => rfl)⟩
  intro cdv A0 outer s0 H0 vs H Q E hr ⟨p, m, B, dl, sl, g, rows, n, st, c, q, r, e, hx, hc, hm, ok, en, hq, h60, hres, fin⟩
  subst e
  obtain ⟨B2, l1, l2, ⟨dx, sa, ms, ini, v, hE1, hE2, hE3, hs, h5, _⟩, hk⟩ := hx.known
  have ⟨dxs, fss, hs1, _⟩ := hs
  refine ws_ifN (et_not (k := true) (et_v (ev_call (cal_poss T) hr (ea_cons (ev_fld (ev_name (i := 0) rfl) hE1 T.c_Bench T.n_Bench_setting rfl) (ea_cons (ev_d (ev_ixL (ev_fld (ev_name (i := 0) rfl) hE1 T.c_Bench T.n_Bench_states rfl) (.of hE3) (ev_neg ev_int) (atI_last _ _)) h5) (ea_1 (ev_d (ev_name (i := 1) rfl) (l1.dp hm))))) fun vs B3 l3 h => ?_))) l2 fun H1 t1 => ?_
  · obtain ⟨w1, w2, w3, rfl, e1, e2, e3⟩ := holds3 h
    exact ⟨sa, w2, w3, g, rows, n, st, q, by rw [show w1 = _ from e1], hs.le l3, e2, e3, ok, en, hq, rfl⟩
  have l21 := l2.trans (le_of t1)
  refine cb_set 2 (P1 := Pd.d K (resD r)) (ev_call (cal_step T) hr (ea_cons (ev_fld (ev_name (i := 0) rfl) hE1 T.c_Bench T.n_Bench_setting rfl) (ea_cons (ev_d (ev_ixL (ev_fld (ev_name (i := 0) rfl) hE1 T.c_Bench T.n_Bench_states rfl) (.of hE3) (ev_neg ev_int) (atI_last _ _)) h5) (ea_1 (ev_d (ev_name (i := 1) rfl) (l1.dp hm))))) fun vs B3 l3 h => ?_) l21 fun w B3 H3 t3 hw => ?_
  · obtain ⟨w1, w2, w3, rfl, e1, e2, e3⟩ := holds3 h
    exact ⟨sa, w2, w3, g, rows, n, st, q, r, by rw [show w1 = _ from e1], hs.le l3, e2, e3, ok, en, hq, h60, hres, rfl⟩
  obtain ⟨B', t4, hx4, hdp⟩ := hk B3 H3 ((Stp.keep l2 t1).trans t3)
  have hw4 : Dp K B' w (resD r) := hdp w _ (noL_res r) hw
  have ⟨dx4, sa4, ms4, ini4, v4, hE4, hdl, hsl, nB4, nD4, nS4, hne, _, _, hc1, hc2, hl4⟩ := hx4
  have ptl : p ≠ dl := fun e => by rw [e, hdl] at hE4; cases hE4
  have lB : Le B' (upd B' p (.ins (cBench K) dx4 (benchF sa4 dl sl))) := Le.new nB4
  refine cb_app (P1 := Pd.v m) (ev_name (i := 1) rfl) (le_put hl4 hE4) (ev_fld (ev_name (i := 0) rfl) upd_same T.c_Bench T.n_Bench_done rfl) hdl (by omega) fun u B5 H5 t5 eu h5' => ?_
  have eu' : u = m := eu
  subst eu'
  have t5c := t5.dropO nB4
  have hx5 : BenchX K (cutP B5 p) H5 p dl sl g rows n (.st st) c := hx4.step t5c
  obtain ⟨ms6, ini6, v6, hd6, hs6, _, _, hc6, kk⟩ := hx5.add u (t5c.up.dp hw4)
  rw [h5'] at hd6
  cases hd6
  have nD5 : B5 dl = none := t5.non _ (by rw [upd_ne ptl.symm]; exact nD4) (by rw [hdl]; simp)
  have x5 : StpX [dl] B5 H5 B5 (upd H5 dl (.lst (ms4 ++ [u]))) := StpX.put t5.lo (by simp) nD5
  refine cb_app (P1 := Pd.v w) (ev_name (i := 2) rfl) x5.lo (ev_fld (ev_name (i := 0) rfl) (t5.up.ins upd_same) T.c_Bench T.n_Bench_states rfl) (by rw [upd_ne hne.symm]; exact hs6) (by rw [List.length_append, List.length_singleton]; omega) fun u6 B6 H6 t6 eu6 h6' => ?_
  have eu6' : u6 = w := eu6
  subst eu6'
  obtain ⟨x6, hx6⟩ := kk H6 t6.same
  refine ws_ret (P := Pd.v u6) (ev_name (i := 2) rfl) hx6.le fun v' B7 H7 s7 p7 => ?_
  have ev7 : v' = u6 := p7
  subst ev7
  have a1 := (t4.trans t5c).x.trans x6 hx5.has
  exact fin v' B7 H7 (a1.trans s7.x hx6.has) (hx6.step s7)
end
end K57

set_option Elab.async false
set_option linter.all false
set_option maxRecDepth 100000
set_option maxHeartbeats 4000000
/-! YO: the law's pool. -/
namespace K57
open PySem PySem.Spec PyProof.Rows L2
/-- the pool, not known -/
def PoolX (B H : Hp) (l : Addr) : Prop := ∃ a b : Int, H l = some (.lst [.int a, .int b]) ∧ 0 ≤ a ∧ 0 ≤ b ∧ b < 2147483647 ∧ B l = none ∧ Le B H
theorem PoolX.step {B H B' H' : Hp} {l : Addr} (h : PoolX B H l) (t : Stp B H B' H') : PoolX B' H' l :=
  let ⟨a, b, h1, h2, h3, h4, h5, h6⟩ := h
  ⟨a, b, t.same _ _ h1, h2, h3, h4, t.non _ h5 (by rw [h1]; simp), t.lo⟩
theorem PoolX.has {B H : Hp} {l : Addr} (h : PoolX B H l) : ∀ x ∈ [l], H x ≠ none := fun x hx => by
  obtain ⟨a, b, h1, _⟩ := h
  rw [List.mem_singleton.mp hx, h1]
  simp
theorem PoolX.le {B H : Hp} {l : Addr} (h : PoolX B H l) : Le B H := let ⟨_, _, _, _, _, _, _, l⟩ := h; l
/-- [e1, e2], told by its place -/
theorem we_lst2 {X : Cx} {e1 e2 : Expr} {σ : L2.St} {B H : Hp} {pos : Pos} {P1 P2 : Pd} (h1 : EvP X e1 σ B P1) (h2 : EvP X e2 σ B P2) (l : Le B H) (he : starEach [e1, e2] X.env = (false, eval e1 X.env) :: starEach [e2] X.env := by rfl) (he2 : starEach [e2] X.env = (false, eval e2 X.env) :: starEach [] X.env := by rfl) :
    WE X (.List [e1, e2] pos) σ H (fun v H' => ∃ a v1 v2 B2 H2, v = .ref a ∧ Stp B H B2 H2 ∧ P1.p v1 B2 ∧ P2.p v2 B2 ∧ H2 a = none ∧ H' = upd H2 a (.lst [v1, v2])) := by
  obtain ⟨t, pt, ka⟩ := ea_cons h1 (ea_1 h2 he2) he
  refine .of (pe_lst pt) (ka H l _ fun vs B2 H2 s hs => ?_)
  obtain ⟨v1, v2, rfl, p1, p2⟩ := holds2 hs
  exact ⟨by show 2 ≤ sizeLine; decide, fun a ha => ⟨a, v1, v2, B2, H2, rfl, s, p1, p2, ha, rfl⟩⟩
/-- the promise of _law_take(pool, many) -/
def spTake : Sp := fun vs H Q _ => ∃ l m B, vs = [.ref l, .int (m : Nat)] ∧ PoolX B H l ∧ 0 < m ∧ m ≤ 1000 ∧ ∀ k B' H', k < m → StpX [l] B H B' H' → PoolX B' H' l → Q (.int (k : Nat)) H'
section
variable {P : Program} {w : World} {K : PySem.W.Frag} {mg : Str → Option Value} {base : Heap} (T : Tx P K mg)
include T
theorem cal_take : C8.Cal P w K mg base 1 "_law_take" spTake [] := by
  obtain ⟨fd, F⟩ := T.d__law_take
  refine ⟨_, fd, ["pool", "many"], [], fn_w F (N := ["pool", "many", "found"]) ⟨rfl, rfl, rfl, by decide +kernel, rfl, by decide +kernel, by decide +kernel⟩ (fun vs H Q E ⟨_, _, _, e, _⟩ => by rw [e]; rfl) ?_, T.g__law_take, F.kp, F.bindsN (fun _ _ _ _ _ _ us hl => match us, hl with | [_, _], _ => rfl), .nil⟩
  intro cdv A0 outer s0 H0 vs H Q E hr ⟨l, m, B, e, ⟨a, b, hl, ha, hb, hb2, hBl, lo⟩, hm, hm2, fin⟩
  subst e
  have lk : Le (upd B l (.lst [.int a, .int b])) H := le_put lo hl
  have hm0 : (0 : Int) < (m : Int) := by omega
  refine ws_if (k := decide (0 < a)) (et_gt (ev_ixL (ev_name (i := 0) rfl) (.of upd_same) ev_int (v := .int a) rfl) ev_int rfl) lk (fun hk H1 t1 => ?_) (fun hk H1 t1 => ?_)
  · refine cb_set 2 (P1 := Pd.v (.int (a % m))) (ev_mod (ev_intI T.f_int rfl (ev_ixL (ev_name (i := 0) rfl) (.of upd_same) ev_int (v := .int a) rfl)) (ev_name (i := 1) rfl) hm0) (lk.trans (le_of t1)) fun u B2 H2 t2 eu => ?_
    have eu' : u = .int (a % m) := eu
    subst eu'
    refine ws_ixW (a := l) (k := 0) ((ev_fdiv (j := (m : Int)) (ev_ixL (ev_name (i := 0) rfl) (.of (t2.up.lst upd_same)) ev_int (v := .int a) rfl) (ev_name (i := 1) rfl) ⟨hm0, by omega⟩) H2 t2.lo) fun v H3 ⟨B3, t3, ev⟩ => ⟨B3, [.int a, .int b], 0, t3.lo, (ev_name (i := 0) rfl), ev_int, t3.lo.lst ((t2.trans t3).up.lst upd_same), rfl, fun H4 t4 => ?_⟩
    have ev' : v = .int (a / m) := ev
    subst ev'
    have tt := (((Stp.keep lk t1).trans t2).trans t3).dropO hBl
    have x : StpX [l] B H (cutP B3 l) (upd H4 l (.lst ([.int a, .int b].set 0 (.int (a / m))))) := (tt.x.step t4).after (List.mem_singleton.mpr rfl) hBl (by rw [hl]; simp)
    have hp : PoolX (cutP B3 l) (upd H4 l (.lst ([.int a, .int b].set 0 (.int (a / m))))) l := ⟨a / m, b, upd_same, Int.ediv_nonneg ha (by omega), hb, hb2, cutP_same, x.lo⟩
    refine ws_ret (P := Pd.v (.int (a % m))) (ev_name (i := 2) rfl) x.lo fun v' B' H' s p => ?_
    have ev2 : v' = .int (a % m) := p
    subst ev2
    have e1 : (((a % (m : Int)).toNat : Nat) : Int) = a % m := Int.toNat_of_nonneg (Int.emod_nonneg _ (by omega))
    rw [← e1]
    exact fin _ B' H' (by have := Int.emod_lt_of_pos a hm0; omega) (x.trans s.x hp.has) (hp.step s)
  · refine ws_nil (ws_ixW (a := l) (k := 1) ((ev_mod (j := 2147483647) (ev_intI (i := b * 48271 + 11) T.f_int rfl (ev_add (ev_mul (ev_ixL (ev_name (i := 0) rfl) (.of upd_same) ev_int (v := .int b) rfl) ev_int (.inr (by decide))) ev_int)) ev_int (by decide)) H1 (lk.trans (le_of t1))) fun v H3 ⟨B3, t3, ev⟩ => ⟨B3, [.int a, .int b], 1, t3.lo, (ev_name (i := 0) rfl), ev_int, t3.lo.lst (t3.up.lst upd_same), rfl, fun H4 t4 => ?_⟩)
    have ev' : v = .int ((b * 48271 + 11) % 2147483647) := ev
    subst ev'
    have tt := ((Stp.keep lk t1).trans t3).dropO hBl
    generalize hc : (b * 48271 + 11) % 2147483647 = c at *
    have hc1 : 0 ≤ c := by omega
    have hc2 : c < 2147483647 := by omega
    have x : StpX [l] B H (cutP B3 l) (upd H4 l (.lst ([.int a, .int b].set 1 (.int c)))) := (tt.x.step t4).after (List.mem_singleton.mpr rfl) hBl (by rw [hl]; simp)
    have hp : PoolX (cutP B3 l) (upd H4 l (.lst ([.int a, .int b].set 1 (.int c)))) l := ⟨a, c, upd_same, ha, hc1, hc2, cutP_same, x.lo⟩
    have lk2 : Le (upd (cutP B3 l) l (.lst [.int a, .int c])) (upd H4 l (.lst ([.int a, .int b].set 1 (.int c)))) := le_put x.lo upd_same
    have hg : ∀ {X : Cx} {σ : L2.St} {o : Expr} {pos p2 : Pos} {j}, Ev X o σ (upd (cutP B3 l) l (.lst [.int a, .int c])) (.ref l) → Ev X (.Subscript o (.Constant (.int 1) j p2) pos) σ (upd (cutP B3 l) l (.lst [.int a, .int c])) (.int c) := fun h => ev_ixL h (.of upd_same) ev_int (v := .int c) rfl
    refine ws_ret (P := Pd.v (.int (c * c % 2147483629 / 64 % m))) (ev_mod (ev_fdiv (ev_mod (ev_intI T.f_int rfl (ev_mul (hg (ev_name (i := 0) rfl)) (hg (ev_name (i := 0) rfl)) (.inl ⟨by omega, by omega⟩))) ev_int (by decide)) ev_int ⟨by decide, by decide⟩) (ev_name (i := 1) rfl) hm0) lk2 fun v' B' H' s p => ?_
    have ev2 : v' = .int (c * c % 2147483629 / 64 % m) := p
    subst ev2
    generalize c * c % 2147483629 / 64 = d
    have e1 : (((d % (m : Int)).toNat : Nat) : Int) = d % m := Int.toNat_of_nonneg (Int.emod_nonneg _ (by omega))
    rw [← e1]
    have s' := s.dropO cutP_same
    exact fin _ _ H' (by have := Int.emod_lt_of_pos d hm0; omega) (x.trans s'.x hp.has) (hp.step s')
/-- the promise of _law_pool(script, k) -/
def spPool (K : PySem.W.Frag) : Sp := fun vs H Q _ => ∃ v k B, ∃ ns : List Int, vs = [v, .int (k : Nat)] ∧ Le B H ∧ Dp K B v (.list (ns.map .int)) ∧ ∀ l B' H', Stp B H B' H' → H l = none → PoolX B' H' l → Q (.ref l) H'
theorem cal_pool : C8.Cal P w K mg base 1 "_law_pool" (spPool K) [] := by
  obtain ⟨fd, F⟩ := T.d__law_pool
  refine ⟨_, fd, ["script", "k"], [], fn_w F (N := ["script", "k", "cell", "size", "seed"]) ⟨rfl, rfl, rfl, by decide +kernel, rfl, by decide +kernel, by decide +kernel⟩ (fun vs H Q E ⟨_, _, _, _, e, _⟩ => by rw [e]; rfl) ?_, T.g__law_pool, F.kp, F.bindsN (fun _ _ _ _ _ _ us hl => match us, hl with | [_, _], _ => rfl), .nil⟩
  intro cdv A0 outer s0 H0 vs H Q E hr ⟨v, k, B, ns, e, l, hv, fin⟩
  subst e
  refine cb_set 2 (P1 := Pd.v (.int 0)) ev_int l fun u B1 H1 t1 eu => ?_
  have eu' : u = .int 0 := eu
  subst eu'
  have hv1 := t1.up.dp hv
  refine ws_if (k := decide (k < ns.length)) (et_lt (i := (k : Int)) (j := (ns.length : Int)) (ev_name (i := 1) rfl) (ev_eq (ev_lenL T.f_len (ev_d (ev_name (i := 0) rfl) hv1)) (by rw [List.length_map])) (by simp)) t1.lo (fun hk H2 t2 => cb_set 2 (P1 := Pd.v (.int (ns.getD k 0))) (ev_sc (d := .int (ns.getD k 0)) (ed_ixL (ev_d (ev_name (i := 0) rfl) hv1) (ev_name (i := 1) rfl) (atI_nat (by
      have hk' := of_decide_eq_true hk
      rw [List.getElem?_map, List.getD_eq_getElem?_getD, List.getElem?_eq_getElem hk']
      rfl))) rfl) (t1.lo.trans (le_of t2)) fun u B2 H2 t3 eu => ws_nil ?_) (fun hk H2 t2 => ws_nil ?_)
  rotate_left
  · have tt := t1.trans (Stp.keep t1.lo t2)
    obtain ⟨i, hi⟩ : ∃ i : Int, V.int 0 = V.int i := ⟨0, rfl⟩
    rw [hi]
    refine cb_set 3 (P1 := Pd.v (.int (if 0 ≤ i then i else -1 - i))) (ev_if (k := decide (0 ≤ i)) (et_ge (ev_name (i := 2) rfl) ev_int rfl) (fun hk => ev_eq (ev_name (i := 2) rfl) (by rw [if_pos (of_decide_eq_true hk)])) (fun hk => ev_eq (ev_sub (ev_neg ev_int) (ev_name (i := 2) rfl)) (by rw [if_neg (of_decide_eq_false hk)]))) tt.lo fun u B3 H3 t3 eu => ?_
    have eu' : u = .int (if 0 ≤ i then i else -1 - i) := eu
    subst eu'
    have hz : 0 ≤ (if 0 ≤ i then i else -1 - i) := by split <;> omega
    generalize (if 0 ≤ i then i else -1 - i) = z at *
    refine cb_set 4 (P1 := Pd.v (.int (z % 2147483629 + 7919 * k + 104729))) (ev_intI T.f_int rfl (ev_add (ev_add (ev_mod (ev_intI T.f_int rfl (ev_name (i := 3) rfl)) ev_int (by decide)) (ev_mul ev_int (ev_name (i := 1) rfl) (.inl (by decide)))) ev_int)) t3.lo fun u B4 H4 t4 eu => ?_
    have eu' : u = .int (z % 2147483629 + 7919 * k + 104729) := eu
    subst eu'
    generalize z % 2147483629 + 7919 * (k : Int) + 104729 = sd at *
    refine ws_retW (we_lst2 (P1 := Pd.v (.int (z * (if decide (10 ^ 18 ≤ z) = true then 1 else 0)))) (P2 := Pd.v (.int (sd * 48271 % 2147483647))) (ev_mul (ev_name (i := 3) rfl) (ev_intB T.f_int rfl (ev_ge (ev_name (i := 3) rfl) (ev_bin op_pow ev_int ev_int fun v1 v2 B H' _ l h1 h2 Q q => ⟨10, 18, h1, h2, ⟨by decide, by decide, by decide⟩, q _ _ _ (.refl l) rfl⟩) rfl)) (.inr (by split <;> decide))) (ev_mod (ev_mul (ev_name (i := 4) rfl) ev_int (.inr (by decide))) ev_int (by decide)) t4.lo) fun v' H' ⟨a, v1, v2, B5, H5, e1, t5, e2, e3, e4, e5⟩ => ?_
    have e2' : v1 = .int (z * (if decide (10 ^ 18 ≤ z) = true then 1 else 0)) := e2
    have e3' : v2 = .int (sd * 48271 % 2147483647) := e3
    subst e1 e2' e3' e5
    have tf := ((tt.trans t3).trans t4).trans t5
    have hBa : B5 a = none := le_none t5.lo e4
    refine fin a B5 _ (tf.trans (Stp.keep t5.lo (same_new e4))) ?_ ⟨_, _, upd_same, ?_, by omega, by omega, hBa, t5.lo.trans (Le.new e4)⟩
    · cases ho : H a with
      | none => rfl
      | some o => rw [tf.same _ _ ho] at e4; cases e4
    · split
      · omega
      · omega
  · have eu' : u = .int (ns.getD k 0) := eu
    subst eu'
    have tt := (t1.trans (Stp.keep t1.lo t2)).trans t3
    clear t1 t2 t3 hv1
    generalize ns.getD k 0 = i at *
    refine cb_set 3 (P1 := Pd.v (.int (if 0 ≤ i then i else -1 - i))) (ev_if (k := decide (0 ≤ i)) (et_ge (ev_name (i := 2) rfl) ev_int rfl) (fun hk => ev_eq (ev_name (i := 2) rfl) (by rw [if_pos (of_decide_eq_true hk)])) (fun hk => ev_eq (ev_sub (ev_neg ev_int) (ev_name (i := 2) rfl)) (by rw [if_neg (of_decide_eq_false hk)]))) tt.lo fun u B3 H3 t3 eu => ?_
    have eu' : u = .int (if 0 ≤ i then i else -1 - i) := eu
    subst eu'
    have hz : 0 ≤ (if 0 ≤ i then i else -1 - i) := by split <;> omega
    generalize (if 0 ≤ i then i else -1 - i) = z at *
    refine cb_set 4 (P1 := Pd.v (.int (z % 2147483629 + 7919 * k + 104729))) (ev_intI T.f_int rfl (ev_add (ev_add (ev_mod (ev_intI T.f_int rfl (ev_name (i := 3) rfl)) ev_int (by decide)) (ev_mul ev_int (ev_name (i := 1) rfl) (.inl (by decide)))) ev_int)) t3.lo fun u B4 H4 t4 eu => ?_
    have eu' : u = .int (z % 2147483629 + 7919 * k + 104729) := eu
    subst eu'
    generalize z % 2147483629 + 7919 * (k : Int) + 104729 = sd at *
    refine ws_retW (we_lst2 (P1 := Pd.v (.int (z * (if decide (10 ^ 18 ≤ z) = true then 1 else 0)))) (P2 := Pd.v (.int (sd * 48271 % 2147483647))) (ev_mul (ev_name (i := 3) rfl) (ev_intB T.f_int rfl (ev_ge (ev_name (i := 3) rfl) (ev_bin op_pow ev_int ev_int fun v1 v2 B H' _ l h1 h2 Q q => ⟨10, 18, h1, h2, ⟨by decide, by decide, by decide⟩, q _ _ _ (.refl l) rfl⟩) rfl)) (.inr (by split <;> decide))) (ev_mod (ev_mul (ev_name (i := 4) rfl) ev_int (.inr (by decide))) ev_int (by decide)) t4.lo) fun v' H' ⟨a, v1, v2, B5, H5, e1, t5, e2, e3, e4, e5⟩ => ?_
    have e2' : v1 = .int (z * (if decide (10 ^ 18 ≤ z) = true then 1 else 0)) := e2
    have e3' : v2 = .int (sd * 48271 % 2147483647) := e3
    subst e1 e2' e3' e5
    have tf := ((tt.trans t3).trans t4).trans t5
    have hBa : B5 a = none := le_none t5.lo e4
    refine fin a B5 _ (tf.trans (Stp.keep t5.lo (same_new e4))) ?_ ⟨_, _, upd_same, ?_, by omega, by omega, hBa, t5.lo.trans (Le.new e4)⟩
    · cases ho : H a with
      | none => rfl
      | some o => rw [tf.same _ _ ho] at e4; cases e4
    · split
      · omega
      · omega
end
end K57

set_option Elab.async false
set_option linter.all false
set_option maxRecDepth 100000
set_option maxHeartbeats 4000000
/-! YP: the law's drawing. -/
namespace K57
open PySem PySem.Spec PyProof.Rows L2
/-- the promise of _law_one(pool, some) -/
def spOne (K : PySem.W.Frag) : Sp := fun vs H Q _ => ∃ l v B, ∃ ds : List PyData, vs = [.ref l, v] ∧ PoolX B H l ∧ Dp K B v (.list ds) ∧ 0 < ds.length ∧ ds.length ≤ 1000 ∧ ∀ d x B' H', d ∈ ds → Dp K B' x d → StpX [l] B H B' H' → PoolX B' H' l → Q x H'
section
variable {P : Program} {w : World} {K : PySem.W.Frag} {mg : Str → Option Value} {base : Heap} (T : Tx P K mg)
include T
theorem cal_one : C8.Cal P w K mg base 2 "_law_one" (spOne K) [] := by
  obtain ⟨fd, F⟩ := T.d__law_one
  refine ⟨_, fd, ["pool", "some"], [], fn_w F (N := ["pool", "some"]) ⟨rfl, rfl, rfl, by decide +kernel, rfl, by decide +kernel, by decide +kernel⟩ (fun vs H Q E ⟨_, _, _, _, e, _⟩ => by rw [e]; rfl) ?_, T.g__law_one, F.kp, F.bindsN (fun _ _ _ _ _ _ us hl => match us, hl with | [_, _], _ => rfl), .nil⟩
  intro cdv A0 outer s0 H0 vs H Q E hr ⟨l, v, B, ds, e, hp, hv, h1, h2, fin⟩
  subst e
  refine ws_retW (Q' := fun v' H' => Q v' H') (.of (pe_ix ix_list pe_w pe_w (fun _ _ => rfl)) ((ev_d (ev_name (i := 1) rfl) hv) H hp.le |>.mono fun v1 H1 ⟨B1, t1, p1⟩ => ?_)) fun v' H' q => q
  obtain ⟨a, xs, e1, g1, g2⟩ := dp_list p1
  subst e1
  have hlen := dpa_len g2
  refine (we_call (cal_take T) hr t1.lo (ea_cons (ev_name (i := 0) rfl) (ea_1 (ev_lenL T.f_len (ev_d (ev_name (i := 1) rfl) (t1.up.dp hv))))) (fun vs B2 H2 t2 hs => ?_) (Q := fun v' H' => ∃ k B' , v' = .int (k : Nat) ∧ k < ds.length ∧ StpX [l] B H B' H' ∧ PoolX B' H' l ∧ Le B1 B')).mono fun v2 H3 ⟨k, B3, e2, hk, x3, hp3, l3⟩ => ?_
  · obtain ⟨w1, w2, rfl, e1, e2⟩ := holds2 hs
    refine ⟨l, ds.length, B2, by rw [show w1 = _ from e1, show w2 = _ from e2], hp.step (t1.trans t2), h1, h2, fun k B' H' hk x' hp' => ⟨k, B', rfl, hk, ?_, hp', t2.up.trans x'.up⟩⟩
    exact (t1.trans t2).x.trans x' (hp.step (t1.trans t2)).has
  · have hkx : k < xs.length := by rw [hlen]; exact hk
    obtain ⟨d, hd, hpd⟩ := dpa_get g2 (List.getElem?_eq_getElem hkx)
    exact ⟨a, xs, (k : Int), xs[k], rfl, e2, (hp3.le.sqL (l3.sqL g1)), atI_nat (List.getElem?_eq_getElem hkx), fin d _ B3 H3 (List.mem_of_getElem? hd) (l3.dp hpd) x3 hp3⟩
end
end K57

set_option Elab.async false
set_option linter.all false
set_option maxRecDepth 100000
set_option maxHeartbeats 4000000
/-! YQ: for i, x in enumerate(list). -/
namespace K57
open PySem PySem.Spec PyProof.Rows L2
section
variable {P : Program} {w : World} {K : PySem.W.Frag} {mg : Str → Option Value} {base : Heap} {N : List Str} {qual : Str} {sc scope : Scope} {f : Addr} {cdv : Value} {A0 : Around} {outer : List Env} {s0 : Shared} {H0 : Hp} {E0 : XK} {iter e0 e o i : Expr} {σ : L2.St} {B H : Hp} {pos px py pf pc kk1 tp : Pos} {kt : Nat} {D : Ends} {rest body : List Stmt} {x y : Str}
theorem cb_forE (j1 j2 : Nat) {as : List PyData} (h : EvD (Cb P w K mg base N qual sc f cdv A0 outer s0 H0 E0) e0 σ B (.list as)) (l : Le B H) (hm : mg "enumerate" = none) (Pv : Hp → Nat → L2.St → Hp → Prop)
    (h0 : ∀ B' H', Stp B H B' H' → Pv B' 0 σ H') (hl : ∀ B' i σ' H', Pv B' i σ' H' → Le B' H')
    (hs : ∀ B' i d v σ' H' H2, Le B B' → as[i]? = some d → Dp K B' v d → Pv B' i σ' H' → Same H' H2 → WSs (Cb P w K mg base N qual sc f cdv A0 outer s0 H0 E0) body { D with nx := Pv B' (i + 1), ct := Pv B' (i + 1), bk := WSs (Cb P w K mg base N qual sc f cdv A0 outer s0 H0 E0) rest D } ((σ'.set j1 (some (.int (i : Nat)))).set j2 (some v)) H2)
    (hd : ∀ B' σ' H', Le B B' → Pv B' as.length σ' H' → WSs (Cb P w K mg base N qual sc f cdv A0 outer s0 H0 E0) rest D σ' H') (hg : Gl (Cb P w K mg base N qual sc f cdv A0 outer s0 H0 E0) "enumerate" := by rfl) (hst : starEach [e0] (Cb P w K mg base N qual sc f cdv A0 outer s0 H0 E0).env = [(false, eval e0 (Cb P w K mg base N qual sc f cdv A0 outer s0 H0 E0).env)] := by rfl) (hst2 : starEach [e0] (Cb P w K mg base N qual sc f cdv A0 outer s0 H0 E0).env = (false, eval e0 (Cb P w K mg base N qual sc f cdv A0 outer s0 H0 E0).env) :: starEach [] (Cb P w K mg base N qual sc f cdv A0 outer s0 H0 E0).env := by rfl)
    (hf : ∀ z, foldedSetIterable (.Call (.Name "enumerate" pf) [e0] [] pc) (Cb P w K mg base N qual sc f cdv A0 outer s0 H0 E0).env z = pure z := by intro _; rfl) (nd : decide N.Nodup = true := by rfl) (hi : N[j1]? = some x := by rfl) (hj : N[j2]? = some y := by rfl)
    (hx : Loc sc x := by first | exact Or.inl rfl | exact Or.inr rfl) (hy : Loc sc y := by first | exact Or.inl rfl | exact Or.inr rfl) (hfx : (Cb P w K mg base N qual sc f cdv A0 outer s0 H0 E0).fn x = true ∨ sc.names.lookup x = some .local := by first | exact .inl rfl | exact .inr rfl) (hfy : (Cb P w K mg base N qual sc f cdv A0 outer s0 H0 E0).fn y = true ∨ sc.names.lookup y = some .local := by first | exact .inl rfl | exact .inr rfl) :
    WSs (Cb P w K mg base N qual sc f cdv A0 outer s0 H0 E0) (.For (.Tuple [.Name x px, .Name y py] kt tp) (.Call (.Name "enumerate" pf) [e0] [] pc) body [] pos :: rest) D σ H :=
  ws_cons (ps_for PassesOwn.never rfl (pi_enum hg hm (pa_cons pe_w pa_nil hst2) hst) (pg_tup rfl (pgs_cons (cb_gname j1 nd hi hx hfx) (pgs_cons (cb_gname j2 nd hj hy hfy) pgs_nil))) pss_w hf) ((h H l).mono fun v H2 ⟨B1, s, p⟩ => by
    obtain ⟨a, xs, e1, h1, h2⟩ := dp_list p
    have hlen : xs.length = as.length := dpa_len h2
    refine ⟨a, xs, by rw [e1], s.lo.sqL h1, ?_⟩
    have w0 := walk_enum (K := K) (a := a) (xs := xs)
    refine ⟨fun i m σ' H' => m = xs.length - i ∧ i ≤ xs.length ∧ Pv B1 i σ' H', ⟨xs.length, by simp, Nat.zero_le _, h0 B1 H2 s⟩, ?_⟩
    rintro i m σ' H' ⟨rfl, hi2, pv⟩
    have hq : SqL K H' a xs := (hl B1 i σ' H' pv).sqL h1
    by_cases hlt : i < xs.length
    · refine .inr ⟨w0.goes i H' hlt hq, Pv B1 (i + 1), fun σ2 H3 p' => ⟨xs.length - (i + 1), by omega, rfl, hlt, p'⟩, fun z H3 hyl => ?_⟩
      obtain ⟨Tn, v1, v2, ez, hT, e2, ei, hx⟩ := w0.yields i H' z H3 hlt hq hyl
      subst ez e2
      have ei' : v1 = .int (i : Nat) := (Option.some.inj ei).symm
      subst ei'
      obtain ⟨d, hd2, hp⟩ := dpa_get h2 hx
      exact ⟨Tn, [.int (i : Nat), v2], rfl, SqT.of upd_same, rfl, _, [v2], rfl, v2, [], rfl, rfl, hs B1 i d v2 σ' H' _ s.up hd2 hp pv (same_new hT)⟩
    · have e : i = xs.length := by omega
      subst e
      refine .inl ⟨w0.stops H' hq, ?_⟩
      rw [hlen] at pv
      exact hd B1 σ' H' s.up pv)
end
section
variable {X : Cx} {e o i : Expr} {σ : L2.St} {H : Hp} {pos px : Pos} {D : Ends} {rest : List Stmt}
/-- o[i] = e, o a dict at a -/
theorem ws_keyW {a : Addr} {z : Str} {Q' : VK} (hu : X.A.units + 1 < cLine) (h : WE X e σ H Q') (kk : ∀ v H', Q' v H' → ∃ B' kvs, Le B' H' ∧ Ev X o σ B' (.ref a) ∧ Ev X i σ B' (.str z) ∧ H' a = some (.dK kvs) ∧ kvs.length < 1000 ∧ ∀ H2, Same H' H2 → WSs X rest D σ (upd H2 a (.dK (putK kvs (.inr z) v))))
    (ha : ∀ v, assign (.Subscript o i px) X.env v = (do
      let ov ← holding [v] (eval o X.env)
      let iv ← holding [v, ov] (eval i X.env)
      standAt px
      holding [v, ov, iv] (setItem ov iv v)
      release [v, ov, iv] []) := by intro _; rfl) (hs : swapsWithSole [.Subscript o i px] e pos.line X.env = pure false := by rfl) (hw : swappedStores [.Subscript o i px] e X.env = pure none := by rfl)
    (h1 : (assignEach [.Subscript o i px] X.env).map (·.2) = [assign (.Subscript o i px) X.env] := by rfl) : WSs X (.Assign [.Subscript o i px] e pos :: rest) D σ H :=
  ws_cons (ps_asg (pe_w (e := e)) (pg_sub pe_w pe_w (set_dict hu) ha) hs hw h1) (h.mono fun v H' q => by
    obtain ⟨B', kvs, l, ho, hi, e1, hz, k2⟩ := kk v H' q
    exact (ho H' l).mono fun u H2 ⟨B2, s2, (q2 : u = .ref a)⟩ => ((hi.le s2.up) H2 s2.lo).mono fun u3 H3 ⟨B3, s3, (q3 : u3 = .str z)⟩ => ⟨a, _, q2, by rw [q3]; exact DPut.k (k := .inr z) (s3.same _ _ (s2.same _ _ e1)) (Nat.lt_of_lt_of_le hz (by decide)), k2 H3 (s2.same.trans s3.same)⟩)
end
end K57

set_option Elab.async false
set_option linter.all false
set_option maxRecDepth 100000
set_option maxHeartbeats 4000000
/-! YR: a comprehension that draws from the pool. -/
namespace K57
open PySem PySem.Spec PyProof.Rows L2
/-- what stands within the comprehension: the list at D so far -/
def AcP (l : Addr) (B H : Hp) (D : Addr) (ss : List Str) (H' : Hp) : Prop := ∃ B', StpX [l] B H B' H' ∧ PoolX B' H' l ∧ B' D = none ∧ H' D = some (.lst (ss.map .str))
theorem StpX.newD {S : List Addr} {B H B' H' : Hp} {D : Addr} {o : HO} (t : StpX S B H B' H') (hD : H D = none) (n : B' D = none) : StpX S B H B' (upd H' D o) :=
  ⟨fun a u ha hn => by
    have : a ≠ D := fun e => by rw [e, hD] at hn; cases hn
    rw [upd_ne this]
    exact t.same a u ha hn, t.up, (StpX.put (S := [D]) (o := o) t.lo (by simp) n).lo, t.non⟩
section
variable {X : Cx} {elt iter : Expr} {ifs : List Expr} {scope sc : Scope} {N : List Str} {σ : L2.St} {B H : Hp} {pos px : Pos} {x : Str} {j : Nat} {l : Addr} {ss : List Str}
/-- [x for x in names if ..], the test draws from the pool -/
theorem we_lcP (eN : X.N = N) (eS : X.env.scope = sc) (hc : X.calm = true) (hb : blkB N sc scope x j = true) (hi : EvD X iter σ B (.list (ss.map .str))) (hp : PoolX B H l)
    (ht : ∀ z B1 H1, Le B B1 → PoolX B1 H1 l → ∀ (s : Shared) (H0 : Hp) (C : Addr) (cl : List (Str × Addr)) (fp : List Addr), WI (Bk X scope s H0 C cl fp) ifs ((wipe σ [j]).set j (some (.str z))) H1 (fun _ H2 => ∃ B2, StpX [l] B1 H1 B2 H2 ∧ PoolX B2 H2 l))
    (he : ∀ z B1, Le B B1 → ∀ (s : Shared) (H0 : Hp) (C : Addr) (cl : List (Str × Addr)) (fp : List Addr), Ev (Bk X scope s H0 C cl fp) elt ((wipe σ [j]).set j (some (.str z))) B1 (.str z)) (hl : ss.length ≤ 1000)
    (hs : ∀ x, foldedSetIterable iter X.env x = pure x) : WE X (.ListComp elt [⟨.Name x px, iter, ifs, 0⟩] scope pos) σ H (fun v H' => ∃ B', ∃ ss' : List Str, ss'.Sublist ss ∧ StpX [l] B H B' H' ∧ PoolX B' H' l ∧ Dp X.K B' v (.list (ss'.map .str))) := by
  obtain ⟨h1, h2, h3, h4⟩ := blk_of hb
  refine .of (pe_lc (own := [(x, j)]) hc (by rw [eN]; exact h1) (pi_list pe_w) (by rw [eN, eS]; exact h2) (pgB eN hb) pts_tI pe_tX hs) ((hi H hp.le).mono fun v H2 ⟨B2, s, p⟩ => ?_)
  obtain ⟨a, xs, e1, g1, g2⟩ := dp_list p
  have hxs : xs = ss.map V.str := dpa_strs_inv g2
  subst hxs
  have hp2 := hp.step s
  refine ⟨a, e1, ⟨ss.map V.str, s.lo.sqL g1⟩, fun D hD => ?_⟩
  have hl1 : D ≠ l := fun e => by
    have := hp2.has l (List.mem_singleton.mpr rfl)
    rw [e] at hD
    exact this hD
  refine lc_it walk_list (fun i H' => ∃ ss', ss'.Sublist (ss.take i) ∧ AcP l B2 H2 D ss' H') ⟨[], List.nil_sublist _, B2, ((Stp.refl s.lo).trans (Stp.keep s.lo (same_new hD))).x, hp2.step (Stp.keep s.lo (same_new hD)), le_none s.lo hD, upd_same⟩ (fun i H' _ ⟨ss', _, B', t, _⟩ => (t.up.trans t.lo).sqL g1) (fun i z H' H'' hi ⟨ss', hsub, B3, t3, hp3, n3, d3⟩ ⟨e2, hx⟩ => ?_) (fun H' ⟨ss', hsub, B3, t3, hp3, n3, d3⟩ => ?_)
  · subst e2
    rw [List.getElem?_map] at hx
    obtain ⟨y, hy, rfl⟩ := Option.map_eq_some_iff.mp hx
    have etake : ss.take (i + 1) = ss.take i ++ [y] := by rw [List.take_succ, hy]; rfl
    refine ⟨wipe_set (List.mem_singleton.mpr rfl), fun s0 H0 C cl fp => (ht y B3 H'' (s.up.trans t3.up) hp3 s0 H0 C cl fp).mono fun b H4 ⟨B4, t4, hp4⟩ => ?_⟩
    have d4 : H4 D = some (.lst (ss'.map .str)) := t4.same _ _ (fun h => hl1 (List.mem_singleton.mp h)) d3
    have n4 : B4 D = none := t4.non D n3 (by rw [d3]; simp)
    have t34 := t3.trans t4 hp3.has
    cases b with
    | true =>
      rw [if_pos rfl]
      refine fun s0 H0 C cl fp => ((he y B4 ((s.up.trans t3.up).trans t4.up) s0 H0 C cl fp) H4 t4.lo).mono fun u H5 ⟨B5, s5, (e5 : u = .str y)⟩ => ?_
      subst e5
      have d5 := s5.same _ _ d4
      have n5 : B5 D = none := s5.non D n4 (by rw [d4]; simp)
      have t5 := t34.trans s5.x hp4.has
      have hlen := hsub.length_le
      have hp5 := hp4.step s5
      refine ⟨_, d5, ?_, ss' ++ [y], by rw [etake]; exact hsub.append (List.Sublist.refl _), B5, ?_, ?_, n5, by rw [upd_same, List.map_append]; rfl⟩
      · rw [List.length_map]
        rw [List.length_take] at hlen
        exact Nat.lt_of_le_of_lt (Nat.le_trans hlen (Nat.le_trans (Nat.min_le_right _ _) hl)) (by decide)
      · exact t5.newD hD n5
      · obtain ⟨pa, pb, q1, q2, q3, q4, q5, q6⟩ := hp5
        exact ⟨pa, pb, by rw [upd_ne hl1.symm]; exact q1, q2, q3, q4, q5, (t5.newD (o := .lst (List.map V.str ss' ++ [.str y])) hD n5).lo⟩
    | false =>
      exact ⟨ss', by rw [etake]; exact hsub.trans (List.sublist_append_left _ _), B4, t34, hp4, n4, d4⟩
  · have lq : Le B3 (upd B3 D (.lst (ss'.map .str))) := Le.new n3
    have x3 : StpX [l] B2 H2 (upd B3 D (.lst (ss'.map .str))) H' := ⟨t3.same, t3.up.trans lq, le_put t3.lo d3, fun y hy hh => by
      have : y ≠ D := fun e => hh (by rw [e]; exact hD)
      rw [upd_ne this]
      exact t3.non y hy hh⟩
    obtain ⟨pa, pb, q1, q2, q3, q4, q5, q6⟩ := hp3
    exact ⟨_, ss', hsub.trans (List.take_sublist _ _), s.x.trans x3 hp2.has, ⟨pa, pb, q1, q2, q3, q4, by rw [upd_ne hl1.symm]; exact q5, x3.lo⟩, .lst (SqL.of upd_same) (dpa_strs ss')⟩
end
end K57

set_option Elab.async false
set_option linter.all false
set_option maxRecDepth 100000
set_option maxHeartbeats 4000000
/-! YS: the law's drawn needs. -/
namespace K57
open PySem PySem.Spec PyProof.Rows L2
section
variable {X : Cx} {e e1 e2 : Expr} {σ : L2.St} {B H : Hp} {pos p p2 cp : Pos} {l : Addr} {j : Nat}
/-- tuple(list), the list told so -/
theorem we_tupP {cl : Addr} {ss : List Str} (hm : X.mg "tuple" = none) (h : WE X e σ H (fun v H' => ∃ B', ∃ ss' : List Str, ss'.Sublist ss ∧ StpX [cl] B H B' H' ∧ PoolX B' H' cl ∧ Dp X.K B' v (.list (ss'.map .str)))) (hg : Gl X "tuple" := by rfl) (he : starEach [e] X.env = (false, eval e X.env) :: starEach [] X.env := by rfl) :
    WE X (.Call (.Name "tuple" p) [e] [] pos) σ H (fun v H' => ∃ B', ∃ ss' : List Str, ss'.Sublist ss ∧ StpX [cl] B H B' H' ∧ PoolX B' H' cl ∧ Dp X.K B' v (.tuple (ss'.map .str))) :=
  .of (pe_callTy call_tuple_of hg hm rfl (pa_cons pe_w pa_nil he) (by decide) (by decide) he rfl) (h.mono fun v H' ⟨B', ss', h1, h2, h3, h4⟩ => by
    obtain ⟨a, xs, rfl, g1, g2⟩ := dp_list h4
    refine ⟨a, xs, rfl, .inl ⟨h3.le.sqL g1, fun q hq => ?_⟩⟩
    have s : Stp B' H' (upd B' q (.tup xs)) (upd H' q (.tup xs)) := .new h3.le hq
    exact ⟨_, ss', h1, h2.trans s.x h3.has, h3.step s, .tup (SqT.of upd_same) ((Le.new (le_none h3.le hq)).dpAll g2)⟩)
/-- _law_take(pool, n) -/
theorem we_take {m : Nat} {k : Nat} {x1 x2 : Expr} (c : C8.Cal X.prog X.w X.K X.mg X.base 1 "_law_take" spTake []) (hr : Room k X.A) (hp : PoolX B H l) (h1 : Ev X x1 σ B (.ref l)) (h2 : Ev X x2 σ B (.int (m : Nat))) (hm0 : 0 < m) (hm1 : m ≤ 1000) (hk : 1 ≤ k := by decide) (hg : Gl X "_law_take" := by rfl) 
    (he : starEach [x1, x2] X.env = (false, eval x1 X.env) :: starEach [x2] X.env := by rfl) (he2 : starEach [x2] X.env = (false, eval x2 X.env) :: starEach [] X.env := by rfl) (hpl : (backTo pos (starEach [x2] X.env)).any (·.1) = false := by rfl) :
    WE X (.Call (.Name "_law_take" p) [x1, x2] [] pos) σ H (fun v H' => ∃ r B', v = .int (r : Nat) ∧ r < m ∧ StpX [l] B H B' H' ∧ PoolX B' H' l) :=
  we_call c hr hp.le (ea_cons h1 (ea_1 h2 he2) he) (fun vs B2 H2 t hs => by
    obtain ⟨w1, w2, rfl, e1, e2⟩ := holds2 hs
    exact ⟨l, m, B2, by rw [show w1 = _ from e1, show w2 = _ from e2], hp.step t, hm0, hm1, fun r B' H' hr x hp' => ⟨r, B', rfl, hr, t.x.trans x (hp.step t).has, hp'⟩⟩) hk hg (by decide) he hpl
/-- a test of it with a number -/
theorem wt_takeEq {i : Int} {R : Nat → Hp → Hp → Prop} (h : WE X e σ H (fun v H' => ∃ r B', v = .int (r : Nat) ∧ R r B' H')) (hs : ∀ r B' H' H2, R r B' H' → Same H' H2 → R r B' H2) : WT X (.Compare e [.Eq] [.Constant (.int i) j p2] pos) σ H (fun b H' => ∃ (r : Nat) (B' : Hp), b = decide ((r : Int) = i) ∧ R r B' H') :=
  .of (pt_cmpR op_eq pe_w pe_w (nomark _)) (h.mono fun v H1 ⟨r, B', e1, h1⟩ => (ev_int (X := X) (σ := σ) (H := H1) H1 (Le.refl _)).mono fun u H2 ⟨B2, s2, (e2 : u = .int i)⟩ => by
    subst e1 e2
    refine ⟨rfl, ?_⟩
    refine ⟨decide (V.int (r : Nat) = V.int i), rfl, r, B', ?_, hs _ _ _ _ h1 s2.same⟩
    simp)
theorem we_takeEq {i : Int} {R : Nat → Hp → Hp → Prop} (h : WE X e σ H (fun v H' => ∃ r B', v = .int (r : Nat) ∧ R r B' H')) (hs : ∀ r B' H' H2, R r B' H' → Same H' H2 → R r B' H2) : WE X (.Compare e [.Eq] [.Constant (.int i) j p2] pos) σ H (fun v H' => ∃ b, v = .bl b ∧ ∃ r B', R r B' H') :=
  .of (pe_cmpR op_eq pe_w pe_w (nomark _)) (h.mono fun v H1 ⟨r, B', e1, h1⟩ => (ev_int (X := X) (σ := σ) (H := H1) H1 (Le.refl _)).mono fun u H2 ⟨B2, s2, (e2 : u = .int i)⟩ => by
    subst e1 e2
    exact ⟨rfl, _, rfl, r, B', hs _ _ _ _ h1 s2.same⟩)
end
end K57

set_option Elab.async false
set_option linter.all false
set_option maxRecDepth 100000
set_option maxHeartbeats 4000000
/-! YT: the law's drawn needs, the defs (printed). -/
namespace K57
open PySem PySem.Spec PyProof.Rows L2
def goodN (ns : List Str) : Bool := decide ns.Nodup && decide (1 ≤ ns.length) && decide (ns.length ≤ 5) && ns.all okName
theorem goodN_of {ns : List Str} (h : goodN ns = true) : ns.Nodup ∧ 1 ≤ ns.length ∧ ns.length ≤ 5 ∧ ∀ n ∈ ns, okName n = true := by
  unfold goodN at h
  simp only [Bool.and_eq_true, decide_eq_true_eq, List.all_eq_true] at h
  exact ⟨h.1.1.1, h.1.1.2, h.1.2, h.2⟩
theorem cutD_take {xs : List Str} {k : Nat} (h : k ≤ xs.length) : cutD (xs.map .str) none (some (k : Int)) = (xs.take k).map .str := by
  have e : ∀ n : Nat, k ≤ n → HT.sIx n n (some (k : Int)) = k := fun n hn => by
    unfold HT.sIx
    simp only
    split <;> omega
  unfold cutD
  rw [List.length_map, e _ h]
  show ((xs.map PyData.str).drop 0).take (k - 0) = _
  rw [List.drop_zero, Nat.sub_zero, List.map_take]
/-- drawn so far: the first k names with their needs -/
def DrawN (ns : List Str) (k : Nat) (rows : List (Str × List Str)) : Prop := rows.map (·.1) = ns.take k ∧ ∀ q ∈ rows, q.2.Sublist ns
theorem okNet_of {ns : List Str} {rows : List (Str × List Str)} (h : goodN ns = true) (d : DrawN ns ns.length rows) : OkNet rows := by
  obtain ⟨h1, h2, h3, h4⟩ := goodN_of h
  obtain ⟨d1, d2⟩ := d
  rw [List.take_length] at d1
  have hl : rows.length = ns.length := by rw [← d1, List.length_map]
  refine ⟨by rw [d1]; exact h1, by omega, by omega, by rw [d1]; exact h4, fun n hn => ?_⟩
  have hs : (lookN rows n).Sublist ns := by
    unfold lookN
    cases e : rows.lookup n with
    | none => exact List.nil_sublist _
    | some l =>
      have : (n, l) ∈ rows := by
        clear hl d1 hn h1 h2 h3 h4 h
        induction rows with
        | nil => simp at e
        | cons z t ih =>
          obtain ⟨a, b⟩ := z
          rw [List.lookup_cons] at e
          by_cases q : n = a
          · subst q
            rw [beq_self_eq_true] at e
            cases e
            exact List.mem_cons_self
          · rw [beq_eq_false_iff_ne.mpr q] at e
            exact List.mem_cons_of_mem _ (ih (fun q hq => d2 q (List.mem_cons_of_mem _ hq)) e)
      exact d2 _ this
  exact ⟨h1.sublist hs, fun m hm => by rw [d1]; exact hs.subset hm⟩
/-- the promise of _law_needs(pool, rings) -/
def spNeeds (K : PySem.W.Frag) : Sp := fun vs H Q _ => ∃ l b B, vs = [.ref l, .bl b] ∧ PoolX B H l ∧ ∀ q rows B' H', OkNet rows → KvAt K B' q (rowsD rows) → StpX [l] B H B' H' → PoolX B' H' l → Q (.ref q) H'
def _law_needsnames : List (List Str) := [["a", "b", "c"], ["y", "x", "zz"], ["p", "q", "r", "s"], ["abcdefgh"], ["m", "n"]]
theorem _law_needsgood : ∀ ns ∈ _law_needsnames, goodN ns = true := by decide +kernel
def _law_wide_needsnames : List (List Str) := [["a", "b", "c", "d", "e"], ["own", "take", "make"], ["need", "ask", "x", "own"]]
theorem _law_wide_needsgood : ∀ ns ∈ _law_wide_needsnames, goodN ns = true := by decide +kernel
section
variable {P : Program} {w : World} {K : PySem.W.Frag} {mg : Str → Option Value} {base : Heap} (T : Tx P K mg)
include T
theorem cal_law_needs : C8.Cal P w K mg base 3 "_law_needs" (spNeeds K) [] := by
  obtain ⟨fd, F⟩ := T.d__law_needs
  refine ⟨_, fd, ["pool", "rings"], [], fn_w F (N := ["pool", "rings", "names", "found", "at", "name", "others", "other"]) ⟨rfl, rfl, rfl, by decide +kernel, rfl, by decide +kernel, by decide +kernel⟩ (fun vs H Q E ⟨_, _, _, e, _⟩ => by rw [e]; rfl) ?_, T.g__law_needs, F.kp, F.bindsN (fun _ _ _ _ _ _ us hl => match us, hl with | [_, _], _ => rfl), .nil⟩
  intro cdv A0 outer s0 H0 vs H Q E hr ⟨l, b, B, e, hp, fin⟩
  subst e
  refine cb_setW 2 (we_call (cal_one T) hr hp.le (ea_cons (ev_name (i := 0) rfl) (ea_1 (ed_lst (ds := _law_needsnames.map fun ns => .list (ns.map .str)) (ea_cons (ed_lst (ds := (["a", "b", "c"] : List Str).map .str) (ea_cons ed_str (ea_cons ed_str (ea_1 ed_str))) (by decide)) (ea_cons (ed_lst (ds := (["y", "x", "zz"] : List Str).map .str) (ea_cons ed_str (ea_cons ed_str (ea_1 ed_str))) (by decide)) (ea_cons (ed_lst (ds := (["p", "q", "r", "s"] : List Str).map .str) (ea_cons ed_str (ea_cons ed_str (ea_cons ed_str (ea_1 ed_str)))) (by decide)) (ea_cons (ed_lst (ds := (["abcdefgh"] : List Str).map .str) (ea_1 ed_str) (by decide)) (ea_1 (ed_lst (ds := (["m", "n"] : List Str).map .str) (ea_cons ed_str (ea_1 ed_str)) (by decide))))))) (by decide)))) (fun vs B2 H2 t hs => ?_) (Q := fun v H' => ∃ B', ∃ ns, ns ∈ _law_needsnames ∧ Dp K B' v (.list (ns.map .str)) ∧ StpX [l] B H B' H' ∧ PoolX B' H' l)) fun nv H1 ⟨B1, ns, hns, hv, x1, hp1⟩ => ?_
  · obtain ⟨w1, w2, rfl, e1, e2⟩ := holds2 hs
    refine ⟨l, w2, B2, _, by rw [show w1 = _ from e1], hp.step t, e2, by decide, by decide, fun d x B' H' hd hx t2 hp' => ?_⟩
    obtain ⟨ns, hns, rfl⟩ := List.mem_map.mp hd
    exact ⟨B', ns, hns, hx, t.x.trans t2 (hp.step t).has, hp'⟩
  have good := _law_needsgood ns hns
  obtain ⟨nd, nl, nh, _⟩ := goodN_of good
  refine cb_setW 3 (we_disp0 H1 hp1.le) fun fv H2 ⟨d, e1, hd, e2⟩ => ?_
  subst e1 e2
  have hdl : d ≠ l := fun e => hp1.has l (List.mem_singleton.mpr rfl) (by rw [← e]; exact hd)
  have hB1d : B1 d = none := le_none hp1.le hd
  have s1 : Stp B1 H1 B1 (upd H1 d (.dK [])) := Stp.keep hp1.le (same_new hd)
  have hHd : H d = none := by
    cases ho : H d with
    | none => rfl
    | some o => rw [x1.same d o (fun h => hdl (List.mem_singleton.mp h)) ho] at hd; cases hd
  refine cb_forE 4 5 (B := B1) (ev_d (ev_name (i := 2) rfl) hv) (s1.lo) T.f_enumerate (fun B' i σ' H' => ∃ B2 kvs rows, Le B' B2 ∧ StpX [l] B H B2 H' ∧ PoolX B2 H' l ∧ B2 d = none ∧ H' d = some (.dK kvs) ∧ KvD K B2 kvs (rowsD rows) ∧ DrawN ns i rows ∧ i ≤ ns.length ∧ Dp K B2 nv (.list (ns.map .str)) ∧
    ∃ c4 c5 c6 c7, σ' = [some (.ref l), some (.bl b), some nv, some (.ref d), c4, c5, c6, c7]) (fun B' H' t => ?_) (fun B' i σ' H' ⟨B2, kvs, rows, l2, x2, hp2, _⟩ => l2.trans hp2.le) (fun B' i dd v σ' H' H3 lB hi hvv ⟨B2, kvs, rows, l2, x2, hp2, n2, d2, kv2, dr, il, hnv, c4, c5, c6, c7, eσ⟩ sm => ?_) (fun B' σ' H' lB ⟨B2, kvs, rows, l2, x2, hp2, n2, d2, kv2, dr, il, hnv, c4, c5, c6, c7, eσ⟩ => ?_)
  · have t2 := s1.trans t
    exact ⟨B', [], [], Le.refl _, x1.trans t2.x hp1.has, hp1.step t2, t.non d hB1d (by rw [upd_same]; simp), t.same _ _ upd_same, trivial, ⟨rfl, fun q hq => by cases hq⟩, Nat.zero_le _, t2.up.dp hv, none, none, none, none, rfl⟩
  · rw [List.getElem?_map] at hi
    obtain ⟨nm, hnm, rfl⟩ := Option.map_eq_some_iff.mp hi
    have ev : v = .str nm := dp_str hvv
    subst ev
    have hil : i < ns.length := (List.getElem?_eq_some_iff.mp hnm).1
    have k3 : Stp B2 H' B2 H3 := Stp.keep hp2.le sm
    have hp3 := hp2.step k3
    subst eσ
    have hos : (if b then ns else ns.take i).Sublist ns := by split; exact List.Sublist.refl _; exact List.take_sublist _ _
    refine cb_set 6 (P1 := Pd.d K (.list ((if b then ns else ns.take i).map .str))) (ev_if (k := b) (et_v (ev_name (i := 1) rfl)) (fun hb => ev_d (ev_name (i := 2) rfl) (by rw [hb]; exact hnv)) (fun hb => EvL.toD (by
      have h9 := cutD_take (xs := ns) (k := i) il
      rw [hb, if_neg (by decide), ← h9]
      exact el_slL (ev_d (ev_name (i := 2) rfl) hnv) eo_none (eo_some (ev_name (i := 4) rfl))))) hp3.le fun ov B4 H4 t4 hov => ?_
    have hp4 := hp3.step t4
    have n4 : B4 d = none := t4.non d n2 (by rw [sm _ _ d2]; simp)
    have d4 : H4 d = some (.dK kvs) := t4.same _ _ (sm _ _ d2)
    have x4 : StpX [l] B H B4 H4 := (x2.trans k3.x hp2.has).trans t4.x hp3.has
    refine ws_keyW (a := d) (z := nm) (ru1 hr) (we_tupP (ss := if b then ns else ns.take i) T.f_tuple (we_lcP (j := 7) (B := B4) rfl rfl rfl rfl (ev_d (ev_name (i := 6) rfl) hov) hp4 (fun z B5 H5 l5 hp5 s5 H9 C cl fp => WI.of (pts_one pt_w) (WT.mono (wt_takeEq (R := fun _ B' H' => StpX [l] B5 H5 B' H' ∧ PoolX B' H' l) (WE.mono (we_take (cal_take T) hr hp5 (ev_name (i := 0) rfl) ev_int (m := 3) (by decide) (by decide)) fun v H' ⟨r, B', e1, _, h1, h2⟩ => ⟨r, B', e1, h1, h2⟩) (fun r B' H' H2 ⟨h1, h2⟩ s => ⟨h1.step s, h2.step (Stp.keep h2.le s)⟩)) fun v H' ⟨r, B', e1, h1⟩ => ⟨B', h1⟩)) (fun z B5 l5 s5 H9 C cl fp => (ev_name (i := 7) rfl)) (Nat.le_trans hos.length_le (by omega)) (by intro _; rfl))) fun v H5 ⟨B5, ss', hsub, x5, hp5, hv5⟩ => ⟨B5, kvs, hp5.le, (ev_name (i := 3) rfl), (ev_name (i := 5) rfl), x5.same _ _ (fun h => hdl (List.mem_singleton.mp h)) d4, ?_, fun H6 s6 => ?_⟩
    · rw [kv2.len, show (rowsD rows).length = rows.length from List.length_map .., ← List.length_map (f := (·.1)), dr.1, List.length_take]
      omega
    · have hnew : nm ∉ (rowsD rows).map (·.1) := by
        rw [rowsD_keys, dr.1]
        intro hc
        obtain ⟨jj, hjj, ej⟩ := List.getElem_of_mem hc
        rw [List.length_take] at hjj
        rw [List.getElem_take] at ej
        have h7 := (List.getElem?_eq_some_iff.mp hnm).2
        exact (List.pairwise_iff_getElem.mp nd jj i (by omega) hil (by omega)) (ej.trans h7.symm)
      have hno : valV kvs (Sum.inr nm) = none := by
        have := kv2.isS (z := nm)
        rw [decide_eq_false hnew] at this
        cases hz : valV kvs (Sum.inr nm) with
        | none => rfl
        | some z => rw [hz] at this; cases this
      rw [putK_new _ hno]
      have n5 : B5 d = none := x5.non d n4 (by rw [d4]; simp)
      have x6 := (x4.trans x5 hp4.has).step s6
      have lq := x6.newD (D := d) (o := .dK (kvs ++ [(.inr nm, v)])) hHd n5
      have up5 := t4.up.trans x5.up
      obtain ⟨pa, pb, q1, q2, q3, q4, q5, q6⟩ := hp5.step (Stp.keep hp5.le s6)
      refine ws_nil ⟨B5, _, rows ++ [(nm, ss')], l2.trans up5, lq, ⟨pa, pb, by rw [upd_ne hdl.symm]; exact q1, q2, q3, q4, q5, lq.lo⟩, n5, upd_same, ?_, ⟨?_, ?_⟩, hil, up5.dp hnv, _, _, _, _, rfl⟩
      · rw [show rowsD (rows ++ [(nm, ss')]) = rowsD rows ++ [(nm, .tuple (ss'.map .str))] from List.map_append]
        exact KvD.app hv5 (kv2.le up5)
      · rw [List.map_append, dr.1, List.take_succ, hnm]
        rfl
      · intro q hq
        rcases List.mem_append.mp hq with h | h
        · exact dr.2 q h
        · rw [List.mem_singleton.mp h]
          exact hsub.trans hos
  · subst eσ
    rw [List.length_map] at dr
    have lk : Le (upd B2 d (.dK kvs)) H' := le_put hp2.le d2
    refine ws_retW (Q' := fun v H'' => v = .ref d ∧ Same H' H'') ((ev_name (i := 3) rfl : Ev _ _ _ H' (.ref d)) H' (Le.refl _) |>.mono fun v H'' ⟨_, s, e⟩ => ⟨e, s.same⟩) fun v H'' ⟨e, s⟩ => ?_
    subst e
    have lq : Le B2 (upd B2 d (.dK kvs)) := Le.new n2
    have lk2 := lk.trans (le_of s)
    obtain ⟨pa, pb, q1, q2, q3, q4, q5, q6⟩ := hp2.step (Stp.keep hp2.le s)
    refine fin d rows (upd B2 d (.dK kvs)) H'' (okNet_of good dr) ⟨kvs, .of upd_same, kv2.le lq⟩ ⟨(x2.step s).same, x2.up.trans lq, lk2, fun y hy hh => ?_⟩ ⟨pa, pb, q1, q2, q3, q4, by rw [upd_ne hdl.symm]; exact q5, lk2⟩
    have : y ≠ d := fun e => hh (by rw [e]; exact hHd)
    rw [upd_ne this]
    exact x2.non y hy hh
theorem cal_law_wide_needs : C8.Cal P w K mg base 3 "_law_wide_needs" (spNeeds K) [] := by
  obtain ⟨fd, F⟩ := T.d__law_wide_needs
  refine ⟨_, fd, ["pool", "rings"], [], fn_w F (N := ["pool", "rings", "names", "found", "at", "name", "others", "other"]) ⟨rfl, rfl, rfl, by decide +kernel, rfl, by decide +kernel, by decide +kernel⟩ (fun vs H Q E ⟨_, _, _, e, _⟩ => by rw [e]; rfl) ?_, T.g__law_wide_needs, F.kp, F.bindsN (fun _ _ _ _ _ _ us hl => match us, hl with | [_, _], _ => rfl), .nil⟩
  intro cdv A0 outer s0 H0 vs H Q E hr ⟨l, b, B, e, hp, fin⟩
  subst e
  refine cb_setW 2 (we_call (cal_one T) hr hp.le (ea_cons (ev_name (i := 0) rfl) (ea_1 (ed_lst (ds := _law_wide_needsnames.map fun ns => .list (ns.map .str)) (ea_cons (ed_lst (ds := (["a", "b", "c", "d", "e"] : List Str).map .str) (ea_cons ed_str (ea_cons ed_str (ea_cons ed_str (ea_cons ed_str (ea_1 ed_str))))) (by decide)) (ea_cons (ed_lst (ds := (["own", "take", "make"] : List Str).map .str) (ea_cons ed_str (ea_cons ed_str (ea_1 ed_str))) (by decide)) (ea_1 (ed_lst (ds := (["need", "ask", "x", "own"] : List Str).map .str) (ea_cons ed_str (ea_cons ed_str (ea_cons ed_str (ea_1 ed_str)))) (by decide))))) (by decide)))) (fun vs B2 H2 t hs => ?_) (Q := fun v H' => ∃ B', ∃ ns, ns ∈ _law_wide_needsnames ∧ Dp K B' v (.list (ns.map .str)) ∧ StpX [l] B H B' H' ∧ PoolX B' H' l)) fun nv H1 ⟨B1, ns, hns, hv, x1, hp1⟩ => ?_
  · obtain ⟨w1, w2, rfl, e1, e2⟩ := holds2 hs
    refine ⟨l, w2, B2, _, by rw [show w1 = _ from e1], hp.step t, e2, by decide, by decide, fun d x B' H' hd hx t2 hp' => ?_⟩
    obtain ⟨ns, hns, rfl⟩ := List.mem_map.mp hd
    exact ⟨B', ns, hns, hx, t.x.trans t2 (hp.step t).has, hp'⟩
  have good := _law_wide_needsgood ns hns
  obtain ⟨nd, nl, nh, _⟩ := goodN_of good
  refine cb_setW 3 (we_disp0 H1 hp1.le) fun fv H2 ⟨d, e1, hd, e2⟩ => ?_
  subst e1 e2
  have hdl : d ≠ l := fun e => hp1.has l (List.mem_singleton.mpr rfl) (by rw [← e]; exact hd)
  have hB1d : B1 d = none := le_none hp1.le hd
  have s1 : Stp B1 H1 B1 (upd H1 d (.dK [])) := Stp.keep hp1.le (same_new hd)
  have hHd : H d = none := by
    cases ho : H d with
    | none => rfl
    | some o => rw [x1.same d o (fun h => hdl (List.mem_singleton.mp h)) ho] at hd; cases hd
  refine cb_forE 4 5 (B := B1) (ev_d (ev_name (i := 2) rfl) hv) (s1.lo) T.f_enumerate (fun B' i σ' H' => ∃ B2 kvs rows, Le B' B2 ∧ StpX [l] B H B2 H' ∧ PoolX B2 H' l ∧ B2 d = none ∧ H' d = some (.dK kvs) ∧ KvD K B2 kvs (rowsD rows) ∧ DrawN ns i rows ∧ i ≤ ns.length ∧ Dp K B2 nv (.list (ns.map .str)) ∧
    ∃ c4 c5 c6 c7, σ' = [some (.ref l), some (.bl b), some nv, some (.ref d), c4, c5, c6, c7]) (fun B' H' t => ?_) (fun B' i σ' H' ⟨B2, kvs, rows, l2, x2, hp2, _⟩ => l2.trans hp2.le) (fun B' i dd v σ' H' H3 lB hi hvv ⟨B2, kvs, rows, l2, x2, hp2, n2, d2, kv2, dr, il, hnv, c4, c5, c6, c7, eσ⟩ sm => ?_) (fun B' σ' H' lB ⟨B2, kvs, rows, l2, x2, hp2, n2, d2, kv2, dr, il, hnv, c4, c5, c6, c7, eσ⟩ => ?_)
  · have t2 := s1.trans t
    exact ⟨B', [], [], Le.refl _, x1.trans t2.x hp1.has, hp1.step t2, t.non d hB1d (by rw [upd_same]; simp), t.same _ _ upd_same, trivial, ⟨rfl, fun q hq => by cases hq⟩, Nat.zero_le _, t2.up.dp hv, none, none, none, none, rfl⟩
  · rw [List.getElem?_map] at hi
    obtain ⟨nm, hnm, rfl⟩ := Option.map_eq_some_iff.mp hi
    have ev : v = .str nm := dp_str hvv
    subst ev
    have hil : i < ns.length := (List.getElem?_eq_some_iff.mp hnm).1
    have k3 : Stp B2 H' B2 H3 := Stp.keep hp2.le sm
    have hp3 := hp2.step k3
    subst eσ
    have hos : (if b then ns else ns.take i).Sublist ns := by split; exact List.Sublist.refl _; exact List.take_sublist _ _
    refine cb_set 6 (P1 := Pd.d K (.list ((if b then ns else ns.take i).map .str))) (ev_if (k := b) (et_v (ev_name (i := 1) rfl)) (fun hb => ev_d (ev_name (i := 2) rfl) (by rw [hb]; exact hnv)) (fun hb => EvL.toD (by
      have h9 := cutD_take (xs := ns) (k := i) il
      rw [hb, if_neg (by decide), ← h9]
      exact el_slL (ev_d (ev_name (i := 2) rfl) hnv) eo_none (eo_some (ev_name (i := 4) rfl))))) hp3.le fun ov B4 H4 t4 hov => ?_
    have hp4 := hp3.step t4
    have n4 : B4 d = none := t4.non d n2 (by rw [sm _ _ d2]; simp)
    have d4 : H4 d = some (.dK kvs) := t4.same _ _ (sm _ _ d2)
    have x4 : StpX [l] B H B4 H4 := (x2.trans k3.x hp2.has).trans t4.x hp3.has
    refine ws_keyW (a := d) (z := nm) (ru1 hr) (we_tupP (ss := if b then ns else ns.take i) T.f_tuple (we_lcP (j := 7) (B := B4) rfl rfl rfl rfl (ev_d (ev_name (i := 6) rfl) hov) hp4 (fun z B5 H5 l5 hp5 s5 H9 C cl fp => WI.of (pts_one pt_w) (WT.mono (wt_takeEq (R := fun _ B' H' => StpX [l] B5 H5 B' H' ∧ PoolX B' H' l) (WE.mono (we_take (cal_take T) hr hp5 (ev_name (i := 0) rfl) ev_int (m := 3) (by decide) (by decide)) fun v H' ⟨r, B', e1, _, h1, h2⟩ => ⟨r, B', e1, h1, h2⟩) (fun r B' H' H2 ⟨h1, h2⟩ s => ⟨h1.step s, h2.step (Stp.keep h2.le s)⟩)) fun v H' ⟨r, B', e1, h1⟩ => ⟨B', h1⟩)) (fun z B5 l5 s5 H9 C cl fp => (ev_name (i := 7) rfl)) (Nat.le_trans hos.length_le (by omega)) (by intro _; rfl))) fun v H5 ⟨B5, ss', hsub, x5, hp5, hv5⟩ => ⟨B5, kvs, hp5.le, (ev_name (i := 3) rfl), (ev_name (i := 5) rfl), x5.same _ _ (fun h => hdl (List.mem_singleton.mp h)) d4, ?_, fun H6 s6 => ?_⟩
    · rw [kv2.len, show (rowsD rows).length = rows.length from List.length_map .., ← List.length_map (f := (·.1)), dr.1, List.length_take]
      omega
    · have hnew : nm ∉ (rowsD rows).map (·.1) := by
        rw [rowsD_keys, dr.1]
        intro hc
        obtain ⟨jj, hjj, ej⟩ := List.getElem_of_mem hc
        rw [List.length_take] at hjj
        rw [List.getElem_take] at ej
        have h7 := (List.getElem?_eq_some_iff.mp hnm).2
        exact (List.pairwise_iff_getElem.mp nd jj i (by omega) hil (by omega)) (ej.trans h7.symm)
      have hno : valV kvs (Sum.inr nm) = none := by
        have := kv2.isS (z := nm)
        rw [decide_eq_false hnew] at this
        cases hz : valV kvs (Sum.inr nm) with
        | none => rfl
        | some z => rw [hz] at this; cases this
      rw [putK_new _ hno]
      have n5 : B5 d = none := x5.non d n4 (by rw [d4]; simp)
      have x6 := (x4.trans x5 hp4.has).step s6
      have lq := x6.newD (D := d) (o := .dK (kvs ++ [(.inr nm, v)])) hHd n5
      have up5 := t4.up.trans x5.up
      obtain ⟨pa, pb, q1, q2, q3, q4, q5, q6⟩ := hp5.step (Stp.keep hp5.le s6)
      refine ws_nil ⟨B5, _, rows ++ [(nm, ss')], l2.trans up5, lq, ⟨pa, pb, by rw [upd_ne hdl.symm]; exact q1, q2, q3, q4, q5, lq.lo⟩, n5, upd_same, ?_, ⟨?_, ?_⟩, hil, up5.dp hnv, _, _, _, _, rfl⟩
      · rw [show rowsD (rows ++ [(nm, ss')]) = rowsD rows ++ [(nm, .tuple (ss'.map .str))] from List.map_append]
        exact KvD.app hv5 (kv2.le up5)
      · rw [List.map_append, dr.1, List.take_succ, hnm]
        rfl
      · intro q hq
        rcases List.mem_append.mp hq with h | h
        · exact dr.2 q h
        · rw [List.mem_singleton.mp h]
          exact hsub.trans hos
  · subst eσ
    rw [List.length_map] at dr
    have lk : Le (upd B2 d (.dK kvs)) H' := le_put hp2.le d2
    refine ws_retW (Q' := fun v H'' => v = .ref d ∧ Same H' H'') ((ev_name (i := 3) rfl : Ev _ _ _ H' (.ref d)) H' (Le.refl _) |>.mono fun v H'' ⟨_, s, e⟩ => ⟨e, s.same⟩) fun v H'' ⟨e, s⟩ => ?_
    subst e
    have lq : Le B2 (upd B2 d (.dK kvs)) := Le.new n2
    have lk2 := lk.trans (le_of s)
    obtain ⟨pa, pb, q1, q2, q3, q4, q5, q6⟩ := hp2.step (Stp.keep hp2.le s)
    refine fin d rows (upd B2 d (.dK kvs)) H'' (okNet_of good dr) ⟨kvs, .of upd_same, kv2.le lq⟩ ⟨(x2.step s).same, x2.up.trans lq, lk2, fun y hy hh => ?_⟩ ⟨pa, pb, q1, q2, q3, q4, by rw [upd_ne hdl.symm]; exact q5, lk2⟩
    have : y ≠ d := fun e => hh (by rw [e]; exact hHd)
    rw [upd_ne this]
    exact x2.non y hy hh
end
end K57

set_option Elab.async false
set_option linter.all false
set_option maxRecDepth 100000
set_option maxHeartbeats 4000000
/-! YU: the law's words and choices. -/
namespace K57
open PySem PySem.Spec PyProof.Rows L2
theorem keyNe {a b : Str} {v : V} (h : a ≠ b) : ¬ (((.inr a : Key), v) : Key × V).1 = .inr b := fun e => h (Sum.inr.inj e)
section
variable {X : Cx} {e o1 i1 o2 i2 : Expr} {σ : L2.St} {B H : Hp} {pos px py tp : Pos} {kt : Nat} {D : Ends} {rest : List Stmt}
/-- o1[i1], o2[i2] = e, a dict at a both times -/
theorem ws_key2 {a : Addr} {z1 z2 : Str} {d1 d2 : PyData} {kvs : List (Key × V)} (hu : X.A.units + 1 < cLine) (hc : X.calm = true) (h : EvD X e σ B (.tuple [d1, d2])) (l : Le B H) (ho1 : ∀ {H1}, Ev X o1 σ H1 (.ref a)) (hi1 : ∀ {H1}, Ev X i1 σ H1 (.str z1)) (ho2 : ∀ {H1}, Ev X o2 σ H1 (.ref a)) (hi2 : ∀ {H1}, Ev X i2 σ H1 (.str z2))
    (hd : H a = some (.dK kvs)) (hz : kvs.length < 100) (k : ∀ v1 v2 B' H', Stp B H B' H' → Dp X.K B' v1 d1 → Dp X.K B' v2 d2 → ∀ H2 H3, Same H' H2 → Same (upd H2 a (.dK (putK kvs (.inr z1) v1))) H3 → WSs X rest D σ (upd H3 a (.dK (putK (putK kvs (.inr z1) v1) (.inr z2) v2))))
    (ha1 : ∀ v, assign (.Subscript o1 i1 px) X.env v = (do
      let ov ← holding [v] (eval o1 X.env)
      let iv ← holding [v, ov] (eval i1 X.env)
      standAt px
      holding [v, ov, iv] (setItem ov iv v)
      release [v, ov, iv] []) := by intro _; rfl)
    (ha2 : ∀ v, assign (.Subscript o2 i2 py) X.env v = (do
      let ov ← holding [v] (eval o2 X.env)
      let iv ← holding [v, ov] (eval i2 X.env)
      standAt py
      holding [v, ov, iv] (setItem ov iv v)
      release [v, ov, iv] []) := by intro _; rfl)
    (hs : swapsWithSole [.Tuple [.Subscript o1 i1 px, .Subscript o2 i2 py] kt tp] e pos.line X.env = pure false := by rfl) (hw : swappedStores [.Tuple [.Subscript o1 i1 px, .Subscript o2 i2 py] kt tp] e X.env = pure none := by rfl) :
    WSs X (.Assign [.Tuple [.Subscript o1 i1 px, .Subscript o2 i2 py] kt tp] e pos :: rest) D σ H :=
  ws_cons (ps_asg (pe_w (e := e)) (pg_tup hc (pgs_cons (pg_sub pe_w pe_w (set_dict hu) ha1) (pgs_cons (pg_sub pe_w pe_w (set_dict hu) ha2) pgs_nil))) hs hw) ((h H l).mono fun v H1 ⟨B1, s1, p1⟩ => by
    obtain ⟨q, xs, e1, g1, g2⟩ := dp_tuple p1
    cases g2 with
    | cons q1 g2 => cases g2 with
      | cons q2 g2 =>
        cases g2
        refine ⟨q, _, e1, s1.lo.sqT g1, rfl, _, _, rfl, ?_⟩
        refine (ho1 H1 (Le.refl _)).mono fun u H2 ⟨B2, t2, (r2 : u = .ref a)⟩ => (hi1 H2 (Le.refl _)).mono fun u3 H3 ⟨B3, t3, (r3 : u3 = .str z1)⟩ => ?_
        refine ⟨a, _, r2, by rw [r3]; exact DPut.k (k := .inr z1) (t3.same _ _ (t2.same _ _ (s1.same _ _ hd))) (Nat.lt_trans hz (by decide)), _, _, rfl, ?_⟩
        refine (ho2 _ (Le.refl _)).mono fun u4 H4 ⟨B4, t4, (r4 : u4 = .ref a)⟩ => (hi2 H4 (Le.refl _)).mono fun u5 H5 ⟨B5, t5, (r5 : u5 = .str z2)⟩ => ?_
        refine ⟨a, _, r4, by rw [r5]; exact DPut.k (k := .inr z2) (t5.same _ _ (t4.same _ _ upd_same)) (Nat.lt_of_le_of_lt (length_putK ..) (Nat.lt_trans (Nat.succ_lt_succ hz) (by decide))), rfl, k _ _ B1 H1 s1 q1 q2 H3 H5 (t2.same.trans t3.same) (t4.same.trans t5.same)⟩)
end
section
variable {P : Program} {w : World} {K : PySem.W.Frag} {mg : Str → Option Value} {base : Heap} (T : Tx P K mg)
include T
def A_words (K : PySem.W.Frag) : List V → Hp → Pd → Prop := fun vs _ R => vs = [.str "net"] ∧ R = Pd.d K (.list [.str "guard", .str "needs"])
theorem cal_words : C8.Cal P w K mg base 1 "_law_words_of" (pureSp (A_words K)) [] :=
  cal_pure T.d__law_words_of T.g__law_words_of ⟨rfl, rfl, rfl, by decide +kernel, rfl, by decide +kernel, by decide +kernel⟩ (fun _ _ _ _ _ _ us hl => match us, hl with | [_], _ => rfl) (N := ["way", "found"]) (ps := ["way"]) (fun vs B R ⟨e, _⟩ => by rw [e]; rfl)
    fun cdv A0 outer s H0 E vs B H R D hr l ⟨e, eR⟩ q1 q2 => by
      subst e
      subst eR
      refine cb_setW 1 (we_disp2 (ed_lst (ds := [.str "look", .str "guard", .str "again", .str "writing"]) (ea_cons ed_str (ea_cons ed_str (ea_cons ed_str (ea_1 ed_str)))) (by decide)) (ed_lst (ds := [.str "failure", .str "wait", .str "wake"]) (ea_cons ed_str (ea_cons ed_str (ea_1 ed_str))) (by decide)) (by decide +kernel) H l) fun fv H1 ⟨a, v1, v2, B1, H2, e1, ha, hBa, h2a, s1, p1, p2, e2⟩ => ?_
      subst e1 e2
      have t1 : Stp B H B1 H2 := (Stp.keep l (same_new ha)).trans s1
      have x1 : StpX [] B H B1 (upd H2 a (.dK [(.inr "first", v1), (.inr "waking", v2)])) := t1.x.newD ha hBa
      refine ws_key2 (a := a) (z1 := "late") (z2 := "net") (B := B1) (d1 := .list [.str "look", .str "fences"]) (d2 := .list [.str "guard", .str "needs"]) (ru1 hr) rfl (ed_tup (ds := [.list [.str "look", .str "fences"], .list [.str "guard", .str "needs"]]) (ea_cons (ed_lst (ds := [.str "look", .str "fences"]) (ea_cons ed_str (ea_1 ed_str)) (by decide)) (ea_1 (ed_lst (ds := [.str "guard", .str "needs"]) (ea_cons ed_str (ea_1 ed_str)) (by decide)))) (by decide)) x1.lo (ev_name (i := 1) rfl) ev_str (ev_name (i := 1) rfl) ev_str upd_same (by show 2 < 100; decide) (fun u1 u2 B2 H3 t2 d1 d2 H4 H5 m1 m2 => ?_)
      have n2 : B2 a = none := t2.non a hBa (by rw [upd_same]; simp)
      have x2 := ((x1.trans t2.x (fun _ h => by cases h)).step m1).newD (o := .dK (putK [(.inr "first", v1), (.inr "waking", v2)] (.inr "late") u1)) ha n2
      have x3 := (x2.step m2).newD (o := .dK (putK (putK [(.inr "first", v1), (.inr "waking", v2)] (.inr "late") u1) (.inr "net") u2)) ha n2
      have t3 := ((Stp.refl l).ownS x3 (fun _ h => by cases h)).own ha upd_same n2
      refine ws_ret (P := Pd.d K (.list [.str "guard", .str "needs"])) (ev_d (ev_get (ev_name (i := 1) rfl) (.of upd_same) (ev_name (i := 0) rfl) (v := u2) ?_ (ru1 hr)) ((Le.new n2).dp d2)) t3.lo fun v' B' H' s p => q1 v' B' H' (t3.trans s) p
      have e1 : putK ([(.inr "first", v1), (.inr "waking", v2)] : List (Key × V)) (.inr "late") u1 = [(.inr "first", v1), (.inr "waking", v2), (.inr "late", u1)] := putK_new _ ((valV_neg (keyNe (by decide +kernel))).trans ((valV_neg (keyNe (by decide +kernel))).trans valV_nil))
      have e2 : putK ([(.inr "first", v1), (.inr "waking", v2), (.inr "late", u1)] : List (Key × V)) (.inr "net") u2 = [(.inr "first", v1), (.inr "waking", v2), (.inr "late", u1), (.inr "net", u2)] := putK_new _ ((valV_neg (keyNe (by decide +kernel))).trans ((valV_neg (keyNe (by decide +kernel))).trans ((valV_neg (keyNe (by decide +kernel))).trans valV_nil)))
      rw [e1, e2]
      exact (valV_neg (keyNe (by decide +kernel))).trans ((valV_neg (keyNe (by decide +kernel))).trans ((valV_neg (keyNe (by decide +kernel))).trans (valV_pos rfl)))
def A_choices (K : PySem.W.Frag) : List V → Hp → Pd → Prop := fun vs _ R => vs = [.str "net", .str "guard"] ∧ R = Pd.d K (.list [.str "own", .str "one"])
theorem cal_choices : C8.Cal P w K mg base 1 "_law_choices" (pureSp (A_choices K)) [] :=
  cal_pure T.d__law_choices T.g__law_choices ⟨rfl, rfl, rfl, by decide +kernel, rfl, by decide +kernel, by decide +kernel⟩ (fun _ _ _ _ _ _ us hl => match us, hl with | [_, _], _ => rfl) (N := ["way", "word", "found"]) (ps := ["way", "word"]) (fun vs B R ⟨e, _⟩ => by rw [e]; rfl)
    fun cdv A0 outer s H0 E vs B H R D hr l ⟨e, eR⟩ q1 q2 => by
      subst e
      subst eR
      refine ws_if (k := false) (et_eqs (ev_name (i := 0) rfl) ev_str rfl (by decide +kernel)) l (fun q => nomatch q) fun _ H1 t1 => ?_
      refine ws_if (k := false) (et_eqs (ev_name (i := 0) rfl) ev_str rfl (by decide +kernel)) (l.trans (le_of t1)) (fun q => nomatch q) fun _ H2 t2 => ?_
      refine ws_if (k := false) (et_eqs (ev_name (i := 0) rfl) ev_str rfl (by decide +kernel)) ((l.trans (le_of t1)).trans (le_of t2)) (fun q => nomatch q) fun _ H3 t3 => ?_
      have t := (Stp.keep l (t1.trans (t2.trans t3)))
      refine cb_set 2 (ev_disp1 (ed_lst (ds := [.str "own", .str "one"]) (ea_cons ed_str (ea_1 ed_str)) (by decide))) t.lo fun u B4 H4 t4 ⟨a, v1, e1, g1, g2⟩ => ?_
      subst e1
      refine ws_nil (ws_nil (ws_nil (ws_ret (P := Pd.d K (.list [.str "own", .str "one"])) (ev_d (ev_get (ev_name (i := 2) rfl) g1 (ev_name (i := 1) rfl) (valV_pos rfl) (ru1 hr)) g2) t4.lo fun v' B' H' s p => q1 v' B' H' ((t.trans t4).trans s) p)))
end
end K57

set_option Elab.async false
set_option linter.all false
set_option maxRecDepth 100000
set_option maxHeartbeats 4000000
/-! YM1: plain mathematics of one hand's run. -/
namespace K57
section
variable {N : Type} [DecidableEq N]
inductive Rch (nd : N → List N) (a : N) : N → Prop
  | refl : Rch nd a a
  | step {p m : N} : Rch nd a p → m ∈ nd p → Rch nd a m
def ownd (R : List (N × Int)) : List N := (R.filter fun q => decide (0 ≤ q.2)).map (·.1)
def ChainR (nd : N → List N) (n0 : N) : List (N × Int) → Prop
  | [] => True
  | [q] => q.1 = n0
  | q :: p :: r => 0 ≤ p.2 ∧ (nd p.1)[p.2.toNat]? = some q.1 ∧ ChainR nd n0 (p :: r)
def bumpR : List (N × Int) → List (N × Int)
  | [] => []
  | p :: r => (p.1, p.2 + 1) :: r
/-- the invariant of one hand's run from n0; M0 made before; R the stack, its top first -/
structure RunI (keys : List N) (nd : N → List N) (U : N → Prop) (M0 : List N) (n0 : N) (M : List N) (R : List (N × Int)) : Prop where
  kn : ∀ k ∈ keys, ∀ m ∈ nd k, m ∈ keys
  mn : M.Nodup
  mkk : ∀ m ∈ M, m ∈ keys
  mc : ∀ m ∈ M, ∀ x ∈ nd m, x ∈ M
  mr : ∀ m ∈ M, m ∈ M0 ∨ Rch nd n0 m
  m0 : ∀ m ∈ M0, m ∈ M
  ch : ChainR nd n0 R
  sk : ∀ q ∈ R, q.1 ∈ keys ∧ Rch nd n0 q.1 ∧ -1 ≤ q.2
  so : ∀ q ∈ R, 0 ≤ q.2 → q.1 ∉ M ∧ q.2.toNat ≤ (nd q.1).length ∧ ∀ x ∈ (nd q.1).take q.2.toNat, x ∈ M
  onn : (ownd R).Nodup
  nl : R = [] → n0 ∈ M
  b0 : n0 ∉ M → R ≠ [] 
  bt : ∀ q, R = [q] → q.2 < 0 → q.1 ∉ M
  uh : ∀ u, U u → ∃ v ∈ nd u, U v
  un : ∀ m ∈ M, ¬ U m
def wtR (nd : N → List N) : List (N × Int) → Nat
  | [] => 0
  | q :: r => (if q.2 < 0 then 1 else 2 * ((nd q.1).length - q.2.toNat) + 2) + (r.map fun p => 2 * ((nd p.1).length - p.2.toNat)).sum
def freeN (keys M : List N) (R : List (N × Int)) : List N := keys.filter fun k => !decide (k ∈ M) && !decide (k ∈ ownd R)
def phiR (keys : List N) (nd : N → List N) (M : List N) (R : List (N × Int)) : Nat := 20 * (freeN keys M R).length + wtR nd R
theorem filter_lt {p q : N → Bool} (h : ∀ x, q x = true → p x = true) {n : N} (hp : p n = true) (hq : q n = false) : ∀ {l : List N}, n ∈ l → (l.filter q).length < (l.filter p).length
  | [], hn => by cases hn
  | a :: r, hn => by
    have ge : ∀ l : List N, (l.filter q).length ≤ (l.filter p).length := fun l => by
      induction l with
      | nil => exact Nat.le_refl _
      | cons b t ih =>
        by_cases e : q b = true
        · rw [List.filter_cons_of_pos e, List.filter_cons_of_pos (h b e)]
          simp only [List.length_cons]
          omega
        · rw [List.filter_cons_of_neg e]
          by_cases e2 : p b = true
          · rw [List.filter_cons_of_pos e2]
            simp only [List.length_cons]
            omega
          · rw [List.filter_cons_of_neg e2]
            exact ih
    rcases List.mem_cons.mp hn with e | e
    · subst e
      rw [List.filter_cons_of_pos hp, List.filter_cons_of_neg (by rw [hq]; simp)]
      have := ge r
      simp only [List.length_cons]
      omega
    · have ih := filter_lt h hp hq e
      by_cases e1 : q a = true
      · rw [List.filter_cons_of_pos e1, List.filter_cons_of_pos (h a e1)]
        simp only [List.length_cons]
        omega
      · rw [List.filter_cons_of_neg e1]
        by_cases e2 : p a = true
        · rw [List.filter_cons_of_pos e2]
          simp only [List.length_cons]
          omega
        · rw [List.filter_cons_of_neg e2]
          exact ih
theorem filter_le {p q : N → Bool} (h : ∀ x, q x = true → p x = true) : ∀ (l : List N), (l.filter q).length ≤ (l.filter p).length
  | [] => Nat.le_refl _
  | b :: t => by
    have ih := filter_le h t
    by_cases e : q b = true
    · rw [List.filter_cons_of_pos e, List.filter_cons_of_pos (h b e)]
      simp only [List.length_cons]
      omega
    · rw [List.filter_cons_of_neg e]
      by_cases e2 : p b = true
      · rw [List.filter_cons_of_pos e2]
        simp only [List.length_cons]
        omega
      · rw [List.filter_cons_of_neg e2]
        exact ih
theorem ownd_pos {q : N × Int} {r : List (N × Int)} (h : 0 ≤ q.2) : ownd (q :: r) = q.1 :: ownd r := by
  unfold ownd
  rw [List.filter_cons_of_pos (by simpa using h), List.map_cons]
theorem ownd_neg {q : N × Int} {r : List (N × Int)} (h : q.2 < 0) : ownd (q :: r) = ownd r := by
  unfold ownd
  rw [List.filter_cons_of_neg (by simp; omega)]
theorem mem_ownd {x : N} {R : List (N × Int)} : x ∈ ownd R ↔ ∃ q ∈ R, 0 ≤ q.2 ∧ q.1 = x := by
  unfold ownd
  simp only [List.mem_map, List.mem_filter, decide_eq_true_eq]
  constructor
  · rintro ⟨q, ⟨h1, h2⟩, h3⟩
    exact ⟨q, h1, h2, h3⟩
  · rintro ⟨q, h1, h2, h3⟩
    exact ⟨q, ⟨h1, h2⟩, h3⟩
/-- all but the top are owned -/
theorem ChainR.tl {nd : N → List N} {n0 : N} : ∀ {q : N × Int} {r : List (N × Int)}, ChainR nd n0 (q :: r) → ∀ p ∈ r, 0 ≤ p.2
  | _, [], _, _, hp => by cases hp
  | q, p :: r, h, x, hx => by
    rcases List.mem_cons.mp hx with e | e
    · rw [e]; exact h.1
    · exact ChainR.tl h.2.2 x e
theorem bump_own {nd : N → List N} {n0 : N} {q : N × Int} {r : List (N × Int)} (h : ChainR nd n0 (q :: r)) : ownd (bumpR r) = ownd r := by
  cases r with
  | nil => rfl
  | cons p r =>
    have : 0 ≤ p.2 := h.1
    show ownd ((p.1, p.2 + 1) :: r) = _
    rw [ownd_pos (q := (p.1, p.2 + 1)) (by show 0 ≤ p.2 + 1; omega), ownd_pos this]
theorem bump_chain {nd : N → List N} {n0 : N} {q : N × Int} {r : List (N × Int)} (h : ChainR nd n0 (q :: r)) : ChainR nd n0 (bumpR r) := by
  cases r with
  | nil => trivial
  | cons p r =>
    cases r with
    | nil => exact h.2.2
    | cons s t => exact h.2.2
theorem take_succ_mem {l : List N} {j : Nat} {m x : N} (h : l[j]? = some m) (hx : x ∈ l.take (j + 1)) : x ∈ l.take j ∨ x = m := by
  rw [List.take_succ, h] at hx
  rcases List.mem_append.mp hx with e | e
  · exact .inl e
  · exact .inr (by simpa using e)
theorem wt_bump {nd : N → List N} {n0 : N} {q : N × Int} {r : List (N × Int)} (h : ChainR nd n0 (q :: r)) : wtR nd (bumpR r) = (r.map fun p => 2 * ((nd p.1).length - p.2.toNat)).sum := by
  cases r with
  | nil => rfl
  | cons p r =>
    obtain ⟨h1, h2, h3⟩ := h
    have hl : p.2.toNat < (nd p.1).length := (List.getElem?_eq_some_iff.mp h2).1
    have e : (p.2 + 1).toNat = p.2.toNat + 1 := by omega
    show (if p.2 + 1 < 0 then 1 else 2 * ((nd p.1).length - (p.2 + 1).toNat) + 2) + (r.map fun p => 2 * ((nd p.1).length - p.2.toNat)).sum = _
    rw [if_neg (by omega), e, List.map_cons, List.sum_cons]
    omega
variable {keys : List N} {nd : N → List N} {U : N → Prop} {M0 M M' : List N} {n0 n : N} {i : Int} {r : List (N × Int)}
theorem RunI.own (I : RunI keys nd U M0 n0 M ((n, i) :: r)) (hi : i < 0) (h1 : n ∉ M) (h2 : n ∉ ownd r) (hl : (nd n).length ≤ 5) : RunI keys nd U M0 n0 M ((n, 0) :: r) ∧ phiR keys nd M ((n, 0) :: r) < phiR keys nd M ((n, i) :: r) := by
  obtain ⟨k1, k2, k3⟩ := I.sk (n, i) (List.mem_cons_self ..)
  refine ⟨{ I with ch := ?_, sk := ?_, so := ?_, onn := ?_, nl := (fun h => by cases h), b0 := (fun _ h => by cases h), bt := ?_ }, ?_⟩
  · cases r with
    | nil => exact I.ch
    | cons p r => exact I.ch
  · intro q hq
    rcases List.mem_cons.mp hq with e | e
    · rw [e]; exact ⟨k1, k2, by show (-1 : Int) ≤ 0; decide⟩
    · exact I.sk q (List.mem_cons_of_mem _ e)
  · intro q hq
    rcases List.mem_cons.mp hq with e | e
    · rw [e]; exact fun _ => ⟨h1, Nat.zero_le _, fun x hx => by simp at hx⟩
    · exact I.so q (List.mem_cons_of_mem _ e)
  · rw [ownd_pos (q := (n, 0)) (by simp)]
    have := I.onn
    rw [ownd_neg (q := (n, i)) hi] at this
    exact List.nodup_cons.mpr ⟨h2, this⟩
  · intro q hq hn
    cases hq
    exact absurd hn (by simp)
  · have hf : (freeN keys M ((n, 0) :: r)).length < (freeN keys M ((n, i) :: r)).length := by
      refine filter_lt (n := n) (fun x hx => ?_) ?_ ?_ k1
      · rw [ownd_pos (q := (n, (0 : Int))) (by simp)] at hx
        rw [ownd_neg (q := (n, i)) hi]
        simp only [Bool.and_eq_true, Bool.not_eq_true', decide_eq_false_iff_not, List.mem_cons, not_or] at hx ⊢
        exact ⟨hx.1, hx.2.2⟩
      · rw [ownd_neg (q := (n, i)) hi]
        simp [h1, h2]
      · rw [ownd_pos (q := (n, (0 : Int))) (by simp)]
        simp
    have w1 : wtR nd ((n, (0 : Int)) :: r) = (2 * (nd n).length + 2) + (r.map fun p => 2 * ((nd p.1).length - p.2.toNat)).sum := by simp [wtR]
    have w2 : wtR nd ((n, i) :: r) = 1 + (r.map fun p => 2 * ((nd p.1).length - p.2.toNat)).sum := by simp [wtR, hi]
    unfold phiR
    omega
theorem RunI.need (I : RunI keys nd U M0 n0 M ((n, i) :: r)) {m : N} (hi : 0 ≤ i) (hm : (nd n)[i.toNat]? = some m) : RunI keys nd U M0 n0 M ((m, -1) :: (n, i) :: r) ∧ phiR keys nd M ((m, -1) :: (n, i) :: r) < phiR keys nd M ((n, i) :: r) := by
  obtain ⟨k1, k2, k3⟩ := I.sk (n, i) (List.mem_cons_self ..)
  have mm : m ∈ nd n := List.mem_of_getElem? hm
  have hl : i.toNat < (nd n).length := (List.getElem?_eq_some_iff.mp hm).1
  have eo : ownd ((m, (-1 : Int)) :: (n, i) :: r) = ownd ((n, i) :: r) := ownd_neg (q := (m, (-1 : Int))) (by simp)
  refine ⟨{ I with ch := ⟨hi, hm, I.ch⟩, sk := ?_, so := ?_, onn := by rw [eo]; exact I.onn, nl := (fun h => by cases h), b0 := (fun _ h => by cases h), bt := (fun q hq => by cases hq) }, ?_⟩
  · intro q hq
    rcases List.mem_cons.mp hq with e | e
    · rw [e]; exact ⟨I.kn n k1 m mm, .step k2 mm, by simp⟩
    · exact I.sk q e
  · intro q hq
    rcases List.mem_cons.mp hq with e | e
    · rw [e]; exact fun h => absurd h (by simp)
    · exact I.so q e
  · have w1 : wtR nd ((m, (-1 : Int)) :: (n, i) :: r) = 1 + (2 * ((nd n).length - i.toNat) + (r.map fun p => 2 * ((nd p.1).length - p.2.toNat)).sum) := by simp [wtR]
    have w2 : wtR nd ((n, i) :: r) = (2 * ((nd n).length - i.toNat) + 2) + (r.map fun p => 2 * ((nd p.1).length - p.2.toNat)).sum := by simp [wtR, show ¬ i < 0 by omega]
    unfold phiR freeN
    rw [eo]
    omega
theorem RunI.take (I : RunI keys nd U M0 n0 M ((n, i) :: r)) (hi : i < 0) (h1 : n ∈ M) : RunI keys nd U M0 n0 M (bumpR r) ∧ phiR keys nd M (bumpR r) < phiR keys nd M ((n, i) :: r) := by
  have hr : r ≠ [] := fun e => by
    subst e
    exact I.bt (n, i) rfl hi h1
  have eo := bump_own I.ch
  have en : ownd ((n, i) :: r) = ownd r := ownd_neg (q := (n, i)) hi
  have hmem : ∀ q ∈ bumpR r, ∃ p ∈ r, q.1 = p.1 ∧ 0 ≤ p.2 ∧ ((q.2 = p.2) ∨ (q.2 = p.2 + 1 ∧ (nd p.1)[p.2.toNat]? = some n)) := fun q hq => by
    cases r with
    | nil => cases hq
    | cons p r =>
      rcases List.mem_cons.mp hq with e | e
      · exact ⟨p, List.mem_cons_self .., by rw [e], I.ch.1, .inr ⟨by rw [e], I.ch.2.1⟩⟩
      · exact ⟨q, List.mem_cons_of_mem _ e, rfl, ChainR.tl I.ch q (List.mem_cons_of_mem _ e), .inl rfl⟩
  refine ⟨{ I with ch := bump_chain I.ch, sk := ?_, so := ?_, onn := by rw [eo, ← en]; exact I.onn, nl := fun h => ?_, b0 := fun _ h => ?_, bt := ?_ }, ?_⟩
  · intro q hq
    obtain ⟨p, hp, e1, e2, e3⟩ := hmem q hq
    obtain ⟨a1, a2, a3⟩ := I.sk p (List.mem_cons_of_mem _ hp)
    rw [e1]
    exact ⟨a1, a2, by rcases e3 with e | e <;> omega⟩
  · intro q hq h0
    obtain ⟨p, hp, e1, e2, e3⟩ := hmem q hq
    obtain ⟨a1, a2, a3⟩ := I.so p (List.mem_cons_of_mem _ hp) e2
    rw [e1]
    rcases e3 with e | ⟨e, e4⟩
    · rw [e]; exact ⟨a1, a2, a3⟩
    · have hl : p.2.toNat < (nd p.1).length := (List.getElem?_eq_some_iff.mp e4).1
      have e5 : q.2.toNat = p.2.toNat + 1 := by omega
      rw [e5]
      refine ⟨a1, by omega, fun x hx => ?_⟩
      rcases take_succ_mem e4 hx with h | h
      · exact a3 x h
      · rw [h]; exact h1
  · cases r with
    | nil => exact absurd rfl hr
    | cons p r => cases h
  · cases r with
    | nil => exact absurd rfl hr
    | cons p r => cases h
  · intro q hq hn
    have : q ∈ bumpR r := by rw [hq]; exact List.mem_singleton.mpr rfl
    obtain ⟨p, hp, e1, e2, e3⟩ := hmem q this
    exact absurd hn (by rcases e3 with e | e <;> omega)
  · have w2 : wtR nd ((n, i) :: r) = 1 + (r.map fun p => 2 * ((nd p.1).length - p.2.toNat)).sum := by simp [wtR, hi]
    have w1 := wt_bump I.ch
    unfold phiR freeN
    rw [eo, en]
    omega
theorem RunI.make (I : RunI keys nd U M0 n0 M ((n, i) :: r)) (hi : 0 ≤ i) (hl : (nd n).length ≤ i.toNat) (hM : ∀ x, x ∈ M' ↔ x ∈ M ∨ x = n) (hM' : M'.Nodup) : RunI keys nd U M0 n0 M' (bumpR r) ∧ phiR keys nd M' (bumpR r) < phiR keys nd M ((n, i) :: r) := by
  obtain ⟨k1, k2, k3⟩ := I.sk (n, i) (List.mem_cons_self ..)
  obtain ⟨s1, s2, s3⟩ := I.so (n, i) (List.mem_cons_self ..) hi
  have eo := bump_own I.ch
  have en : ownd ((n, i) :: r) = n :: ownd r := ownd_pos (q := (n, i)) hi
  have ond := I.onn
  rw [en] at ond
  obtain ⟨o1, o2⟩ := List.nodup_cons.mp ond
  have hall : ∀ x ∈ nd n, x ∈ M := fun x hx => s3 x (by show x ∈ (nd n).take i.toNat; rw [List.take_of_length_le hl]; exact hx)
  have hmem : ∀ q ∈ bumpR r, ∃ p ∈ r, q.1 = p.1 ∧ 0 ≤ p.2 ∧ ((q.2 = p.2) ∨ (q.2 = p.2 + 1 ∧ (nd p.1)[p.2.toNat]? = some n)) := fun q hq => by
    cases r with
    | nil => cases hq
    | cons p r =>
      rcases List.mem_cons.mp hq with e | e
      · exact ⟨p, List.mem_cons_self .., by rw [e], I.ch.1, .inr ⟨by rw [e], I.ch.2.1⟩⟩
      · exact ⟨q, List.mem_cons_of_mem _ e, rfl, ChainR.tl I.ch q (List.mem_cons_of_mem _ e), .inl rfl⟩
  refine ⟨⟨I.kn, hM', ?_, ?_, ?_, fun m hm => (hM m).mpr (.inl (I.m0 m hm)), bump_chain I.ch, ?_, ?_, by rw [eo]; exact o2, fun h => ?_, fun h0 h => ?_, ?_, I.uh, fun m hm hu => ?_⟩, ?_⟩
  · intro m hm
    rcases (hM m).mp hm with h | h
    · exact I.mkk m h
    · rw [h]; exact k1
  · intro m hm x hx
    rcases (hM m).mp hm with h | h
    · exact (hM x).mpr (.inl (I.mc m h x hx))
    · rw [h] at hx; exact (hM x).mpr (.inl (hall x hx))
  · intro m hm
    rcases (hM m).mp hm with h | h
    · exact I.mr m h
    · rw [h]; exact .inr k2
  · intro q hq
    obtain ⟨p, hp, e1, e2, e3⟩ := hmem q hq
    obtain ⟨a1, a2, a3⟩ := I.sk p (List.mem_cons_of_mem _ hp)
    rw [e1]
    exact ⟨a1, a2, by rcases e3 with e | e <;> omega⟩
  · intro q hq h0
    obtain ⟨p, hp, e1, e2, e3⟩ := hmem q hq
    obtain ⟨a1, a2, a3⟩ := I.so p (List.mem_cons_of_mem _ hp) e2
    rw [e1]
    have hpM : p.1 ∉ M' := fun h => by
      rcases (hM _).mp h with h | h
      · exact a1 h
      · exact o1 (h ▸ mem_ownd.mpr ⟨p, hp, e2, rfl⟩)
    rcases e3 with e | ⟨e, e4⟩
    · rw [e]; exact ⟨hpM, a2, fun x hx => (hM x).mpr (.inl (a3 x hx))⟩
    · have hl : p.2.toNat < (nd p.1).length := (List.getElem?_eq_some_iff.mp e4).1
      have e5 : q.2.toNat = p.2.toNat + 1 := by omega
      rw [e5]
      refine ⟨hpM, by omega, fun x hx => ?_⟩
      rcases take_succ_mem e4 hx with h | h
      · exact (hM x).mpr (.inl (a3 x h))
      · rw [h]; exact (hM n).mpr (.inr rfl)
  · cases r with
    | nil =>
      have : n = n0 := I.ch
      rw [← this]
      exact (hM n).mpr (.inr rfl)
    | cons p r => cases h
  · cases r with
    | nil =>
      have : n = n0 := I.ch
      rw [← this] at h0
      exact h0 ((hM n).mpr (.inr rfl))
    | cons p r => cases h
  · intro q hq hn
    have : q ∈ bumpR r := by rw [hq]; exact List.mem_singleton.mpr rfl
    obtain ⟨p, hp, e1, e2, e3⟩ := hmem q this
    exact absurd hn (by rcases e3 with e | e <;> omega)
  · rcases (hM m).mp hm with h | h
    · exact I.un m h hu
    · rw [h] at hu
      obtain ⟨v, v1, v2⟩ := I.uh n hu
      exact I.un v (hall v v1) v2
  · have w2 : wtR nd ((n, i) :: r) = (2 * ((nd n).length - i.toNat) + 2) + (r.map fun p => 2 * ((nd p.1).length - p.2.toNat)).sum := by simp [wtR, show ¬ i < 0 by omega]
    have w1 := wt_bump I.ch
    have hf : (freeN keys M' (bumpR r)).length ≤ (freeN keys M ((n, i) :: r)).length := by
      refine filter_le (fun x hx => ?_) keys
      rw [eo] at hx
      rw [en]
      simp only [Bool.and_eq_true, Bool.not_eq_true', decide_eq_false_iff_not, List.mem_cons, not_or, hM] at hx ⊢
      exact ⟨hx.1.1, hx.1.2, hx.2⟩
    unfold phiR
    omega
theorem RunI.start (kn : ∀ k ∈ keys, ∀ m ∈ nd k, m ∈ keys) (mn : M0.Nodup) (mk : ∀ m ∈ M0, m ∈ keys) (mc : ∀ m ∈ M0, ∀ x ∈ nd m, x ∈ M0) (h : n0 ∉ M0) (hk : n0 ∈ keys) (uh : ∀ u, U u → ∃ v ∈ nd u, U v) (un : ∀ m ∈ M0, ¬ U m) : RunI keys nd U M0 n0 M0 [(n0, -1)] :=
  ⟨kn, mn, mk, mc, fun m hm => .inl hm, fun m hm => hm, rfl, fun q hq => by rw [List.mem_singleton.mp hq]; exact ⟨hk, .refl, by simp⟩, fun q hq h => by rw [List.mem_singleton.mp hq] at h; exact absurd h (by simp),
    by rw [ownd_neg (q := (n0, (-1 : Int))) (by simp)]; exact List.nodup_nil, (fun h => by cases h), (fun _ h => by cases h), (fun q hq _ => by cases hq; exact h), uh, un⟩
/-- a run that is out, all its needs made before -/
theorem RunI.out1 (I : RunI keys nd U M0 n0 M []) (mc : ∀ m ∈ M0, ∀ x ∈ nd m, x ∈ M0) (hn : ∀ x ∈ nd n0, x ∈ M0) : ∀ x, x ∈ M ↔ x ∈ M0 ∨ x = n0 := by
  have hr : ∀ x, Rch nd n0 x → x ∈ M0 ∨ x = n0 := fun x hx => by
    induction hx with
    | refl => exact .inr rfl
    | step _ hm ih =>
      rcases ih with h | h
      · exact .inl (mc _ h _ hm)
      · rw [h] at hm; exact .inl (hn _ hm)
  intro x
  constructor
  · intro h
    rcases I.mr x h with h | h
    · exact .inl h
    · exact hr x h
  · rintro (h | h)
    · exact I.m0 x h
    · rw [h]; exact I.nl rfl
/-- no fault then -/
theorem RunI.nofault (I : RunI keys nd U M0 n0 M ((n, i) :: r)) (mc : ∀ m ∈ M0, ∀ x ∈ nd m, x ∈ M0) (hn : ∀ x ∈ nd n0, x ∈ M0) (h1 : n ∉ M) (h2 : n ∈ ownd r) : False := by
  have hr : ∀ x, Rch nd n0 x → x ∈ M0 ∨ x = n0 := fun x hx => by
    induction hx with
    | refl => exact .inr rfl
    | step _ hm ih =>
      rcases ih with h | h
      · exact .inl (mc _ h _ hm)
      · rw [h] at hm; exact .inl (hn _ hm)
  cases r with
  | nil => cases h2
  | cons p r =>
    have hp := I.ch.1
    have hm : n ∈ nd p.1 := List.mem_of_getElem? I.ch.2.1
    obtain ⟨a1, _, _⟩ := I.so p (List.mem_cons_of_mem _ (List.mem_cons_self ..)) hp
    obtain ⟨_, a2, _⟩ := I.sk p (List.mem_cons_of_mem _ (List.mem_cons_self ..))
    rcases hr _ a2 with h | h
    · exact a1 (I.m0 _ h)
    · rw [h] at hm
      exact h1 (I.m0 _ (hn _ hm))
/-- a run that is out, begun with nothing made: what is made is what is reached -/
theorem RunI.out0 (I : RunI keys nd U [] n0 M []) : ∀ x, x ∈ M ↔ Rch nd n0 x := fun x => by
  constructor
  · intro h
    rcases I.mr x h with h | h
    · cases h
    · exact h
  · intro h
    induction h with
    | refl => exact I.nl rfl
    | step _ hm ih => exact I.mc _ ih _ hm
theorem RunI.stuck (I : RunI keys nd U M0 n0 M []) (h : U n0) : False := I.un _ (I.nl rfl) h
end
end K57

set_option Elab.async false
set_option linter.all false
set_option maxRecDepth 100000
set_option maxHeartbeats 4000000
/-! YM2: plain mathematics of what is reached. -/
namespace K57
section
variable {N : Type} [DecidableEq N]
def growN (nd : N → List N) (F : List N) : List N := F ++ ((F.map nd).flatten).filter fun x => !decide (x ∈ F)
def reachF (nd : N → List N) (F : List N) : Nat → List N
  | 0 => F
  | k + 1 => growN nd (reachF nd F k)
variable {keys : List N} {nd : N → List N} {n0 : N} {F : List N}
theorem mem_growN {x : N} : x ∈ growN nd F ↔ x ∈ F ∨ ∃ u ∈ F, x ∈ nd u := by
  unfold growN
  simp only [List.mem_append, List.mem_filter, List.mem_flatten, List.mem_map, Bool.not_eq_true', decide_eq_false_iff_not]
  constructor
  · rintro (h | ⟨⟨l, ⟨u, hu, rfl⟩, hx⟩, _⟩)
    · exact .inl h
    · exact .inr ⟨u, hu, hx⟩
  · rintro (h | ⟨u, hu, hx⟩)
    · exact .inl h
    · by_cases q : x ∈ F
      · exact .inl q
      · exact .inr ⟨⟨_, ⟨u, hu, rfl⟩, hx⟩, q⟩
theorem reachF_rch : ∀ {k : Nat} {x : N}, x ∈ reachF nd [n0] k → Rch nd n0 x
  | 0, x, h => by rw [List.mem_singleton.mp h]; exact .refl
  | k + 1, x, h => by
    rcases mem_growN.mp h with h | ⟨u, hu, hx⟩
    · exact reachF_rch h
    · exact .step (reachF_rch hu) hx
theorem reachF_keys (kn : ∀ k ∈ keys, ∀ m ∈ nd k, m ∈ keys) (h0 : n0 ∈ keys) : ∀ {k : Nat} {x : N}, x ∈ reachF nd [n0] k → x ∈ keys
  | 0, x, h => by rw [List.mem_singleton.mp h]; exact h0
  | k + 1, x, h => by
    rcases mem_growN.mp h with h | ⟨u, hu, hx⟩
    · exact reachF_keys kn h0 h
    · exact kn u (reachF_keys kn h0 hu) x hx
theorem reachF_n0 : ∀ {k : Nat}, n0 ∈ reachF nd [n0] k
  | 0 => List.mem_singleton.mpr rfl
  | k + 1 => mem_growN.mpr (.inl reachF_n0)
theorem reachF_cnt (kn : ∀ k ∈ keys, ∀ m ∈ nd k, m ∈ keys) (h0 : n0 ∈ keys) : ∀ k : Nat, (∀ u ∈ reachF nd [n0] k, ∀ x ∈ nd u, x ∈ reachF nd [n0] k) ∨ k + 1 ≤ (keys.filter fun x => decide (x ∈ reachF nd [n0] k)).length
  | 0 => .inr (by
      have : n0 ∈ keys.filter fun x => decide (x ∈ reachF nd [n0] 0) := List.mem_filter.mpr ⟨h0, by simp [reachF]⟩
      exact List.length_pos_of_mem this)
  | k + 1 => by
    rcases reachF_cnt kn h0 k with h | h
    · have e : ∀ x, x ∈ reachF nd [n0] (k + 1) ↔ x ∈ reachF nd [n0] k := fun x => by
        show x ∈ growN nd _ ↔ _
        rw [mem_growN]
        constructor
        · rintro (q | ⟨u, hu, hx⟩)
          · exact q
          · exact h u hu x hx
        · exact .inl
      left
      intro u hu x hx
      exact (e x).mpr (h u ((e u).mp hu) x hx)
    · by_cases q : ∀ u ∈ reachF nd [n0] k, ∀ x ∈ nd u, x ∈ reachF nd [n0] k
      · have e : ∀ x, x ∈ reachF nd [n0] (k + 1) ↔ x ∈ reachF nd [n0] k := fun x => by
          show x ∈ growN nd _ ↔ _
          rw [mem_growN]
          constructor
          · rintro (p | ⟨u, hu, hx⟩)
            · exact p
            · exact q u hu x hx
          · exact .inl
        left
        intro u hu x hx
        exact (e x).mpr (q u ((e u).mp hu) x hx)
      · right
        have ⟨u, hu, x, hx, hn⟩ : ∃ u, u ∈ reachF nd [n0] k ∧ ∃ x, x ∈ nd u ∧ x ∉ reachF nd [n0] k := by
          apply Classical.byContradiction
          intro c
          apply q
          intro u hu x hx
          apply Classical.byContradiction
          intro hn
          exact c ⟨u, hu, x, hx, hn⟩
        have := filter_lt (p := fun x => decide (x ∈ reachF nd [n0] (k + 1))) (q := fun x => decide (x ∈ reachF nd [n0] k)) (fun y hy => by
          simp only [decide_eq_true_eq] at hy ⊢
          exact mem_growN.mpr (.inl hy)) (n := x) (by simp only [decide_eq_true_eq]; exact mem_growN.mpr (.inr ⟨u, hu, hx⟩)) (by simp [hn]) (l := keys) (kn u (reachF_keys kn h0 hu) x hx)
        omega
theorem reachF_iff (kn : ∀ k ∈ keys, ∀ m ∈ nd k, m ∈ keys) (h0 : n0 ∈ keys) : ∀ x, x ∈ reachF nd [n0] keys.length ↔ Rch nd n0 x := fun x => by
  constructor
  · exact reachF_rch
  · intro h
    have hc : ∀ u ∈ reachF nd [n0] keys.length, ∀ x ∈ nd u, x ∈ reachF nd [n0] keys.length := by
      rcases reachF_cnt kn h0 keys.length with h | h
      · exact h
      · have := List.length_filter_le (fun x => decide (x ∈ reachF nd [n0] keys.length)) keys
        omega
    induction h with
    | refl => exact reachF_n0
    | step _ hm ih => exact hc _ ih _ hm
theorem flatten_len {c : Nat} : ∀ {L : List (List N)}, (∀ l ∈ L, l.length ≤ c) → L.flatten.length ≤ c * L.length
  | [], _ => by simp
  | l :: L, h => by
    have := flatten_len (L := L) fun l hl => h l (List.mem_cons_of_mem _ hl)
    have h1 := h l (List.mem_cons_self ..)
    rw [List.flatten_cons, List.length_append, List.length_cons, Nat.mul_add]
    omega
theorem grow_len (h : ∀ u ∈ F, (nd u).length ≤ 5) : (growN nd F).length ≤ 6 * F.length := by
  have := flatten_len (L := F.map nd) (c := 5) fun l hl => by
    obtain ⟨u, hu, rfl⟩ := List.mem_map.mp hl
    exact h u hu
  rw [List.length_map] at this
  have h2 := List.length_filter_le (fun x => !decide (x ∈ F)) (F.map nd).flatten
  unfold growN
  rw [List.length_append]
  omega
theorem reachF_len (kn : ∀ k ∈ keys, ∀ m ∈ nd k, m ∈ keys) (h0 : n0 ∈ keys) (h : ∀ u ∈ keys, (nd u).length ≤ 5) : ∀ k : Nat, (reachF nd [n0] k).length ≤ 6 ^ k
  | 0 => by simp [reachF]
  | k + 1 => by
    have ih := reachF_len kn h0 h k
    have := grow_len (F := reachF nd [n0] k) fun u hu => h u (reachF_keys kn h0 hu)
    show (growN nd _).length ≤ _
    rw [Nat.pow_succ]
    omega
end
end K57

set_option Elab.async false
set_option linter.all false
set_option maxRecDepth 100000
set_option maxHeartbeats 4000000
/-! YM3: plain mathematics of the order. -/
namespace K57
section
variable {N : Type} [DecidableEq N]
def readyG (keys : List N) (nd : N → List N) (found : List N) : List N := keys.filter fun n => !decide (n ∈ found) && !!(nd n).all fun m => decide (m ∈ found)
def orderG (keys : List N) (nd : N → List N) : Nat → List N → Option (List N)
  | 0, found => some found
  | k + 1, found => match readyG keys nd found with
    | [] => none
    | r :: _ => orderG keys nd k (found ++ [r])
def OrdOk (keys : List N) (nd : N → List N) (l : List N) : Prop := ∀ i n, l[i]? = some n → n ∈ keys ∧ n ∉ l.take i ∧ ∀ x ∈ nd n, x ∈ l.take i
variable {keys : List N} {nd : N → List N} {found l : List N} {n : N}
theorem mem_readyG : n ∈ readyG keys nd found ↔ n ∈ keys ∧ n ∉ found ∧ ∀ m ∈ nd n, m ∈ found := by
  unfold readyG
  simp [List.mem_filter]
theorem OrdOk.snoc (h : OrdOk keys nd found) (h1 : n ∈ keys) (h2 : n ∉ found) (h3 : ∀ m ∈ nd n, m ∈ found) : OrdOk keys nd (found ++ [n]) := fun i m hm => by
  by_cases q : i < found.length
  · rw [List.getElem?_append_left q] at hm
    rw [List.take_append_of_le_length (Nat.le_of_lt q)]
    exact h i m hm
  · rw [List.getElem?_append_right (by omega)] at hm
    have e : i = found.length := by
      have := (List.getElem?_eq_some_iff.mp hm).1
      simp at this
      omega
    subst e
    rw [Nat.sub_self] at hm
    have : n = m := by simpa using hm
    subst this
    rw [List.take_append_of_le_length (Nat.le_refl _), List.take_length]
    exact ⟨h1, h2, h3⟩
theorem orderG_some : ∀ {k : Nat} {found l : List N}, OrdOk keys nd found → orderG keys nd k found = some l → OrdOk keys nd l ∧ l.length = found.length + k
  | 0, found, l, h, e => by
    cases e
    exact ⟨h, rfl⟩
  | k + 1, found, l, h, e => by
    unfold orderG at e
    split at e
    · cases e
    · rename_i r t q
      obtain ⟨h1, h2, h3⟩ := mem_readyG.mp (show r ∈ readyG keys nd found by rw [q]; exact List.mem_cons_self ..)
      obtain ⟨a, b⟩ := orderG_some (h.snoc h1 h2 h3) e
      refine ⟨a, ?_⟩
      rw [b, List.length_append, List.length_singleton]
      omega
theorem orderG_none : ∀ {k : Nat} {found : List N}, orderG keys nd k found = none → ∃ F : List N, F.length < found.length + k ∧ readyG keys nd F = []
  | 0, found, e => by cases e
  | k + 1, found, e => by
    unfold orderG at e
    split at e
    · rename_i q
      exact ⟨found, by omega, q⟩
    · rename_i r t q
      obtain ⟨F, a, b⟩ := orderG_none e
      rw [List.length_append, List.length_singleton] at a
      exact ⟨F, by omega, b⟩
theorem sub_lenG {a b : List N} (hn : a.Nodup) (hs : ∀ m ∈ a, m ∈ b) : a.length ≤ b.length := by
  induction a generalizing b with
  | nil => exact Nat.zero_le _
  | cons x r ih =>
    have h1 := List.nodup_cons.mp hn
    have hx := hs x (List.mem_cons_self ..)
    have := ih (b := b.erase x) h1.2 fun m hm => by
      have hne : m ≠ x := fun e => h1.1 (e ▸ hm)
      exact (List.mem_erase_of_ne hne).mpr (hs m (List.mem_cons_of_mem _ hm))
    rw [List.length_erase_of_mem hx] at this
    have := List.length_pos_of_mem hx
    simp only [List.length_cons]
    omega
/-- without an order some names lead back into themselves -/
theorem order_stuck (kn : ∀ k ∈ keys, ∀ m ∈ nd k, m ∈ keys) (hk : keys.Nodup) (e : orderG keys nd keys.length [] = none) : ∃ U : N → Prop, (∃ u ∈ keys, U u) ∧ ∀ u, U u → ∃ v ∈ nd u, U v := by
  obtain ⟨F, h1, h2⟩ := orderG_none e
  refine ⟨fun u => u ∈ keys ∧ u ∉ F, ?_, fun u ⟨hu, hf⟩ => ?_⟩
  · apply Classical.byContradiction
    intro c
    have : keys.length ≤ F.length := sub_lenG hk fun m hm => by
      apply Classical.byContradiction
      intro hn
      exact c ⟨m, hm, hm, hn⟩
    simp at h1
    omega
  · apply Classical.byContradiction
    intro c
    have : u ∈ readyG keys nd F := mem_readyG.mpr ⟨hu, hf, fun m hm => by
      apply Classical.byContradiction
      intro hn
      exact c ⟨m, hm, kn u hu m hm, hn⟩⟩
    rw [h2] at this
    cases this
theorem OrdOk.nodup : ∀ {l : List N}, OrdOk keys nd l → l.Nodup := fun {l} h => by
  rw [List.nodup_iff_pairwise_ne, List.pairwise_iff_getElem]
  intro i j hi hj hij e
  have := (h j l[j] (List.getElem?_eq_getElem hj)).2.1
  apply this
  rw [← e]
  exact List.mem_take_iff_getElem.mpr ⟨i, by omega, rfl⟩
theorem OrdOk.closed (h : OrdOk keys nd l) (i : Nat) : ∀ m ∈ l.take i, ∀ x ∈ nd m, x ∈ l.take i := fun m hm x hx => by
  obtain ⟨j, hj, e⟩ := List.mem_take_iff_getElem.mp hm
  have hl : j < l.length := by omega
  have := (h j m (by rw [List.getElem?_eq_getElem hl, e])).2.2 x hx
  obtain ⟨j', hj', e'⟩ := List.mem_take_iff_getElem.mp this
  exact List.mem_take_iff_getElem.mpr ⟨j', by omega, e'⟩
end
end K57

set_option Elab.async false
set_option linter.all false
set_option maxRecDepth 100000
set_option maxHeartbeats 4000000
/-! YV: one hand's run, of the mirror. -/
namespace K57
open PySem PySem.Spec PyProof.Rows L2
/-- all hands empty but h; R its stack, the top first -/
def pplH (n h : Nat) (R : Stk) : List Stk := (List.replicate n []).set h R.reverse
section
variable {rows : List (Str × List Str)} {one : Bool} {n h : Nat} {M0 : List Str} {n0 : Str} {U : Str → Prop} {st : Sta} {R : Stk}
theorem pplH_len : (pplH n h R).length = n := by unfold pplH; rw [List.length_set, List.length_replicate]
theorem pplH_at (hh : h < n) : (pplH n h R).getD h [] = R.reverse := by
  unfold pplH
  rw [List.getD_eq_getElem?_getD, List.getElem?_set_self (by rw [List.length_replicate]; exact hh)]
  rfl
theorem pplH_set (S : Stk) : (pplH n h R).set h S.reverse = pplH n h S := by
  unfold pplH
  rw [List.set_set]
theorem pplH_nil : pplH n h [] = List.replicate n [] := by
  unfold pplH
  apply List.ext_getElem?
  intro i
  by_cases q : h = i
  · subst q
    by_cases hl : h < n
    · rw [List.getElem?_set_self (by rw [List.length_replicate]; exact hl), List.getElem?_replicate, if_pos hl]
      rfl
    · rw [List.getElem?_eq_none (by rw [List.length_set, List.length_replicate]; omega), List.getElem?_eq_none (by rw [List.length_replicate]; omega)]
  · rw [List.getElem?_set_ne q]
theorem pplH_get {k : Nat} {s : Stk} (e : (pplH n h R)[k]? = some s) : (k = h ∧ s = R.reverse) ∨ s = [] := by
  unfold pplH at e
  by_cases q : h = k
  · subst q
    rw [List.getElem?_set] at e
    rw [if_pos rfl] at e
    split at e
    · cases e; exact .inl ⟨rfl, rfl⟩
    · cases e
  · rw [List.getElem?_set_ne q, List.getElem?_replicate] at e
    split at e
    · cases e; exact .inr rfl
    · cases e
theorem pplH_mem {s : Stk} (e : s ∈ pplH n h R) : s = R.reverse ∨ s = [] := by
  obtain ⟨k, hk⟩ := List.mem_iff_getElem?.mp e
  rcases pplH_get hk with ⟨_, q⟩ | q
  · exact .inl q
  · exact .inr q
theorem mem_owners {people : List Stk} {name : Str} {k : Nat} : k ∈ ownersM people name ↔ ∃ s, people[k]? = some s ∧ (s.any fun e => decide (e.1 = name) && decide (0 ≤ e.2)) = true := by
  unfold ownersM
  rw [List.mem_map]
  constructor
  · rintro ⟨q, hq, rfl⟩
    obtain ⟨h1, h2⟩ := List.mem_filter.mp hq
    exact ⟨q.1, List.mem_zipIdx_iff_getElem?.mp h1, h2⟩
  · rintro ⟨s, h1, h2⟩
    exact ⟨(s, k), List.mem_filter.mpr ⟨List.mem_zipIdx_iff_getElem?.mpr h1, h2⟩, rfl⟩
theorem any_own {name : Str} : (R.reverse.any fun e => decide (e.1 = name) && decide (0 ≤ e.2)) = true ↔ name ∈ ownd R := by
  rw [List.any_eq_true, mem_ownd]
  constructor
  · rintro ⟨e, h1, h2⟩
    simp only [Bool.and_eq_true, decide_eq_true_eq] at h2
    exact ⟨e, List.mem_reverse.mp h1, h2.2, h2.1⟩
  · rintro ⟨e, h1, h2, h3⟩
    exact ⟨e, List.mem_reverse.mpr h1, by simp only [Bool.and_eq_true, decide_eq_true_eq]; exact ⟨h3, h2⟩⟩
theorem owners_h (hh : h < n) {name : Str} : h ∈ ownersM (pplH n h R) name ↔ name ∈ ownd R := by
  rw [mem_owners]
  constructor
  · rintro ⟨s, h1, h2⟩
    rcases pplH_get h1 with ⟨_, q⟩ | q
    · rw [q] at h2; exact any_own.mp h2
    · rw [q] at h2; cases h2
  · intro q
    refine ⟨R.reverse, ?_, any_own.mpr q⟩
    unfold pplH
    rw [List.getElem?_set_self (by rw [List.length_replicate]; exact hh)]
theorem owners_nil {name : Str} (q : name ∉ ownd R) : ownersM (pplH n h R) name = [] := by
  rw [List.eq_nil_iff_forall_not_mem]
  intro k hk
  obtain ⟨s, h1, h2⟩ := mem_owners.mp hk
  rcases pplH_get h1 with ⟨_, e⟩ | e
  · rw [e] at h2; exact q (any_own.mp h2)
  · rw [e] at h2; cases h2
/-- the moves of one hand -/
theorem flat_own {α : Type} (f : Nat → List α) (h : Nat) : ∀ n : Nat, ((((List.range n).map fun k => (f k).map fun d => (k, d)).flatten).filter fun q => decide (q.1 = h)) = if h < n then (f h).map fun d => (h, d) else []
  | 0 => rfl
  | n + 1 => by
    rw [List.range_succ, List.map_append, List.flatten_append, List.filter_append, flat_own f h n]
    show _ ++ List.filter _ ([((f n).map fun d => (n, d))].flatten) = _
    rw [List.flatten_cons, List.flatten_nil, List.append_nil]
    by_cases q : n = h
    · subst q
      rw [if_neg (Nat.lt_irrefl _), if_pos (Nat.lt_succ_self _), List.nil_append, List.filter_eq_self]
      intro a ha
      obtain ⟨d, _, rfl⟩ := List.mem_map.mp ha
      simp
    · have e : ((f n).map fun d => (n, d)).filter (fun q => decide (q.1 = h)) = [] := by
        rw [List.filter_eq_nil_iff]
        intro a ha
        obtain ⟨d, _, rfl⟩ := List.mem_map.mp ha
        simp [q]
      rw [e, List.append_nil]
      by_cases q2 : h < n
      · rw [if_pos q2, if_pos (by omega)]
      · rw [if_neg q2, if_neg (by omega)]
theorem moves_own {h : Nat} (hh : h < st.people.length) : ((movesM rows one st).filter fun q => decide (q.1 = h)) = (handM rows one (plyOf st) h).map fun d => (h, d) := by
  unfold movesM
  rw [flat_own, if_pos hh]
/-- the invariant of one hand's run -/
structure RunS (rows : List (Str × List Str)) (n h : Nat) (U : Str → Prop) (M0 : List Str) (n0 : Str) (st : Sta) (R : Stk) : Prop where
  inv : RunI (keysN rows) (lookN rows) U M0 n0 st.made R
  ppl : st.people = pplH n h R
  lk : st.lock = none ∨ st.lock = some h
  lk0 : R = [] → st.lock = none
  srt : sortS st.made = st.made
theorem RunS.mlen (ok : OkNet rows) (I : RunS rows n h U M0 n0 st R) : st.made.length ≤ 5 := by
  have := sub_lenG I.inv.mn I.inv.mkk
  have h5 := ok.hi
  rw [List.length_map] at this
  omega
theorem RunI.rlen {keys : List Str} {nd : Str → List Str} {M : List Str} (I : RunI keys nd U M0 n0 M R) : R.length ≤ keys.length + 1 := by
  cases R with
  | nil => exact Nat.zero_le _
  | cons q r =>
    have h1 : ownd r = r.map (·.1) := by
      unfold ownd
      rw [List.filter_eq_self.mpr]
      intro p hp
      exact decide_eq_true (ChainR.tl I.ch p hp)
    have h2 : (ownd r).Nodup := by
      have := I.onn
      by_cases q0 : 0 ≤ q.2
      · rw [ownd_pos q0] at this
        exact (List.nodup_cons.mp this).2
      · rw [ownd_neg (by omega)] at this
        exact this
    have h3 := sub_lenG (b := keys) h2 fun m hm => by
      obtain ⟨p, hp, _, e⟩ := mem_ownd.mp hm
      rw [← e]
      exact (I.sk p (List.mem_cons_of_mem _ hp)).1
    rw [h1, List.length_map] at h3
    simp only [List.length_cons]
    omega
theorem okPly_of {s : Ply} {M : List Str} (ok : OkNet rows) (h4 : n ≤ 4) (I : RunI (keysN rows) (lookN rows) U M0 n0 M R) (e : s.people = pplH n h R) (hm : ∀ x, x ∈ s.there → x ∈ M) (hl : s.there.length ≤ 6) : OkPly rows s := by
  refine ⟨ok, ?_, by rw [e, pplH_len]; exact h4, ?_, by omega, fun m hx => I.mkk m (hm m hx)⟩
  · intro s1 hs q hq
    rw [e] at hs
    rcases pplH_mem hs with g | g
    · rw [g] at hq
      exact (I.sk q (List.mem_reverse.mp hq)).1
    · rw [g] at hq; cases hq
  · intro s1 hs
    rw [e] at hs
    rcases pplH_mem hs with g | g
    · rw [g, List.length_reverse]
      have := I.rlen
      have h5 := ok.hi
      rw [List.length_map] at this
      omega
    · rw [g]; exact Nat.zero_le _
theorem RunS.ok (ok : OkNet rows) (h4 : n ≤ 4) (I : RunS rows n h U M0 n0 st R) : OkPly rows (plyOf st) :=
  okPly_of ok h4 I.inv I.ppl (fun _ hx => hx) (by have := I.mlen ok; show st.made.length ≤ 6; omega)
theorem look_len (ok : OkNet rows) {m : Str} (hm : m ∈ keysN rows) : (lookN rows m).length ≤ 5 := by
  have := sub_lenG (ok.need m hm).1 (ok.need m hm).2
  have h5 := ok.hi
  rw [List.length_map] at this
  omega
end
end K57

set_option Elab.async false
set_option linter.all false
set_option maxRecDepth 100000
set_option maxHeartbeats 4000000
/-! YW: the steps of one hand's run. -/
namespace K57
open PySem PySem.Spec PyProof.Rows L2
section
variable {rows : List (Str × List Str)} {one : Bool} {n h : Nat} {M0 : List Str} {n0 : Str} {U : Str → Prop} {st : Sta} {R R' r : Stk} {q : Str × Int}
theorem backM_h {s : Ply} (hh : h < n) (e : s.people = pplH n h (q :: r)) : backM s h = { s with people := pplH n h (bumpR r), lock := if r = [] then (if s.lock = some h then none else s.lock) else s.lock } := by
  have S : s.people.getD h [] = r.reverse ++ [q] := by rw [e, pplH_at hh, List.reverse_cons]
  unfold backM
  rw [S, List.dropLast_concat]
  cases r with
  | nil =>
    show { s with people := s.people.set h [], lock := if s.lock = some h then none else s.lock } = _
    have e2 : s.people.set h [] = pplH n h [] := by
      rw [e]
      exact pplH_set (n := n) (h := h) (R := [q]) []
    rw [e2]
    rfl
  | cons p t =>
    rw [List.reverse_cons, List.getLast?_concat, List.dropLast_concat]
    show { s with people := s.people.set h (t.reverse ++ [(p.1, p.2 + 1)]) } = _
    rw [e, show t.reverse ++ [(p.1, p.2 + 1)] = ((p.1, p.2 + 1) :: t).reverse from (List.reverse_cons ..).symm, pplH_set]
    rfl
theorem step_mk {d : Str} {s' : Ply} (ok : OkNet rows) (h4 : n ≤ 4) (e : stepM rows one st (h, d) = s') (hb : s'.bad = .none) (I' : RunI (keysN rows) (lookN rows) U M0 n0 (sortS s'.there) R') (hp : s'.people = pplH n h R') (hlk : s'.lock = none ∨ s'.lock = some h) (hl0 : R' = [] → s'.lock = none) :
    StepOk rows one st (h, d) (.st s'.sta) ∧ RunS rows n h U M0 n0 s'.sta R' := by
  have hlen : (sortS s'.there).length ≤ 5 := by
    have := sub_lenG I'.mn I'.mkk
    have h5 := ok.hi
    rw [List.length_map] at this
    omega
  refine ⟨⟨?_, .inl ⟨by rw [e]; exact hb, by rw [e]⟩⟩, I', hp, hlk, hl0, sortS_idem _⟩
  rw [e]
  exact okPly_of ok h4 I' hp (fun x hx => mem_sortS.mpr hx) (by rw [sortS_len] at hlen; omega)
theorem run_step (ok : OkNet rows) (h4 : n ≤ 4) (hh : h < n) (I : RunS rows n h U M0 n0 st (q :: r)) :
    ∃ d, handM rows one (plyOf st) h = [d] ∧ ((∃ R' st', StepOk rows one st (h, d) (.st st') ∧ RunS rows n h U M0 n0 st' R' ∧ phiR (keysN rows) (lookN rows) st'.made R' < phiR (keysN rows) (lookN rows) st.made (q :: r)) ∨ (StepOk rows one st (h, d) (.bad h q.1) ∧ q.2 < 0 ∧ q.1 ∉ st.made ∧ q.1 ∈ ownd r)) := by
  have okp := I.ok ok h4
  have hp := I.ppl
  have hlk := I.lk
  have hsrt := I.srt
  have inv := I.inv
  obtain ⟨q1, q2⟩ := q
  have hk1 : q1 ∈ keysN rows := (inv.sk _ (List.mem_cons_self ..)).1
  have S : (plyOf st).people.getD h [] = r.reverse ++ [(q1, q2)] := by
    show st.people.getD h [] = _
    rw [hp, pplH_at hh, List.reverse_cons]
  have hM : handM rows one (plyOf st) h = if q2 < 0 then wantedM one (plyOf st) h q1 else if q2 < ((lookN rows q1).length : Int) then ["need"] else ["make"] := by
    unfold handM
    rw [S, List.getLast?_concat]
  have hD : ∀ d, stepM rows one st (h, d) = (if d = "ask" then { plyOf st with bad := itselfD h q1 }
    else if d = "own" then { plyOf st with people := (plyOf st).people.set h (r.reverse ++ [(q1, 0)]), lock := if one then some h else none }
    else if d = "need" then { plyOf st with people := (plyOf st).people.set h ((r.reverse ++ [(q1, q2)]) ++ [((lookN rows q1).getD q2.toNat "", -1)]) }
    else backM (if d = "make" then { plyOf st with there := (plyOf st).there ++ [q1] } else plyOf st) h) := fun d => by
    show doM rows one (plyOf st) h d = _
    unfold doM
    rw [S, List.getLast?_concat]
    dsimp only
    rw [List.dropLast_concat]
  by_cases c1 : q2 < 0
  · rw [if_pos c1] at hM
    have hW : wantedM one (plyOf st) h q1 = if q1 ∈ st.made then (["take"] : List Str) else if h ∈ ownersM st.people q1 then ["ask"] else if (!(ownersM st.people q1).isEmpty || (one && lockOther st.lock h)) = true then [] else ["own"] := rfl
    by_cases c2 : q1 ∈ st.made
    · rw [if_pos c2] at hW
      obtain ⟨J, hphi⟩ := inv.take c1 c2
      have e := hD "take"
      rw [if_neg (by decide), if_neg (by decide), if_neg (by decide), if_neg (by decide), backM_h hh (show (plyOf st).people = _ from hp)] at e
      obtain ⟨a, b⟩ := step_mk (R' := bumpR r) (M0 := M0) (n0 := n0) (U := U) ok h4 e rfl (by show RunI _ _ _ _ _ (sortS st.made) _; rw [hsrt]; exact J) rfl (by
        show (if r = [] then (if st.lock = some h then none else st.lock) else st.lock) = none ∨ (if r = [] then (if st.lock = some h then none else st.lock) else st.lock) = some h
        by_cases z1 : r = []
        · rw [if_pos z1]
          rcases hlk with z | z
          · rw [z]; simp
          · rw [z]; simp
        · rw [if_neg z1]; exact hlk) (fun z => by
        show (if r = [] then (if st.lock = some h then none else st.lock) else st.lock) = none
        have z1 : r = [] := by cases r with
          | nil => rfl
          | cons p t => cases z
        rw [if_pos z1]
        rcases hlk with z | z
        · rw [z]; simp
        · rw [z]; simp)
      refine ⟨"take", by rw [hM, hW], .inl ⟨_, _, a, b, ?_⟩⟩
      show phiR _ _ (sortS st.made) _ < _
      rw [hsrt]
      exact hphi
    · rw [if_neg c2] at hW
      by_cases c3 : q1 ∈ ownd r
      · have c3' : q1 ∈ ownd ((q1, q2) :: r) := by rw [ownd_neg (q := (q1, q2)) c1]; exact c3
        rw [if_pos (by rw [hp]; exact (owners_h hh).mpr c3')] at hW
        have e := hD "ask"
        rw [if_pos rfl] at e
        refine ⟨"ask", by rw [hM, hW], .inr ⟨⟨?_, .inr ⟨h, q1, by rw [e], rfl⟩⟩, c1, c2, c3⟩⟩
        rw [e]
        exact ⟨okp.net, okp.ppl, okp.l4, okp.len, okp.th, okp.thn⟩
      · have c3' : q1 ∉ ownd ((q1, q2) :: r) := by rw [ownd_neg (q := (q1, q2)) c1]; exact c3
        rw [if_neg (by rw [hp]; exact fun z => c3' ((owners_h hh).mp z)), hp, owners_nil c3', if_neg (by
          rcases hlk with z | z
          · rw [z]; simp [lockOther]
          · rw [z]; simp [lockOther])] at hW
        obtain ⟨J, hphi⟩ := inv.own c1 c2 c3 (look_len ok hk1)
        have e := hD "own"
        rw [if_neg (by decide), if_pos rfl, show (plyOf st).people = pplH n h ((q1, q2) :: r) from hp, show r.reverse ++ [(q1, (0 : Int))] = ((q1, 0) :: r).reverse from (List.reverse_cons ..).symm, pplH_set] at e
        obtain ⟨a, b⟩ := step_mk (R' := (q1, 0) :: r) (M0 := M0) (n0 := n0) (U := U) ok h4 e rfl (by show RunI _ _ _ _ _ (sortS st.made) _; rw [hsrt]; exact J) rfl (by
          show (if one = true then some h else none) = none ∨ (if one = true then some h else none) = some h
          cases one
          · exact .inl rfl
          · exact .inr rfl) (fun z => by cases z)
        refine ⟨"own", by rw [hM, hW], .inl ⟨_, _, a, b, ?_⟩⟩
        show phiR _ _ (sortS st.made) _ < _
        rw [hsrt]
        exact hphi
  · rw [if_neg c1] at hM
    have c1' : 0 ≤ q2 := by omega
    by_cases c2 : q2 < ((lookN rows q1).length : Int)
    · rw [if_pos c2] at hM
      have hl : q2.toNat < (lookN rows q1).length := by omega
      have hm : (lookN rows q1)[q2.toNat]? = some ((lookN rows q1).getD q2.toNat "") := by
        rw [List.getD_eq_getElem?_getD, List.getElem?_eq_getElem hl]
        rfl
      obtain ⟨J, hphi⟩ := inv.need c1' hm
      have e := hD "need"
      rw [if_neg (by decide), if_neg (by decide), if_pos rfl, show (plyOf st).people = pplH n h ((q1, q2) :: r) from hp, show (r.reverse ++ [(q1, q2)]) ++ [((lookN rows q1).getD q2.toNat "", (-1 : Int))] = (((lookN rows q1).getD q2.toNat "", -1) :: (q1, q2) :: r).reverse by rw [List.reverse_cons, List.reverse_cons], pplH_set] at e
      obtain ⟨a, b⟩ := step_mk (R' := ((lookN rows q1).getD q2.toNat "", -1) :: (q1, q2) :: r) (M0 := M0) (n0 := n0) (U := U) ok h4 e rfl (by show RunI _ _ _ _ _ (sortS st.made) _; rw [hsrt]; exact J) rfl hlk (fun z => by cases z)
      refine ⟨"need", hM, .inl ⟨_, _, a, b, ?_⟩⟩
      show phiR _ _ (sortS st.made) _ < _
      rw [hsrt]
      exact hphi
    · rw [if_neg c2] at hM
      have hnm : q1 ∉ st.made := (inv.so _ (List.mem_cons_self ..) c1').1
      obtain ⟨J, hphi⟩ := inv.make (M' := sortS (st.made ++ [q1])) c1' (by show (lookN rows q1).length ≤ q2.toNat; omega) (fun x => by
        rw [mem_sortS, List.mem_append, List.mem_singleton]) (by
        rw [sortS_nodup, List.nodup_append]
        refine ⟨inv.mn, List.nodup_cons.mpr ⟨(fun h => by cases h), List.nodup_nil⟩, fun a ha b hb => ?_⟩
        rw [List.mem_singleton.mp hb]
        exact fun z => hnm (z ▸ ha))
      have e := hD "make"
      rw [if_neg (by decide), if_neg (by decide), if_neg (by decide), if_pos rfl, backM_h (s := { plyOf st with there := (plyOf st).there ++ [q1] }) hh (show (plyOf st).people = _ from hp)] at e
      obtain ⟨a, b⟩ := step_mk (R' := bumpR r) (M0 := M0) (n0 := n0) (U := U) ok h4 e rfl J rfl (by
        show (if r = [] then (if st.lock = some h then none else st.lock) else st.lock) = none ∨ (if r = [] then (if st.lock = some h then none else st.lock) else st.lock) = some h
        by_cases z1 : r = []
        · rw [if_pos z1]
          rcases hlk with z | z
          · rw [z]; simp
          · rw [z]; simp
        · rw [if_neg z1]; exact hlk) (fun z => by
        show (if r = [] then (if st.lock = some h then none else st.lock) else st.lock) = none
        have z1 : r = [] := by cases r with
          | nil => rfl
          | cons p t => cases z
        rw [if_pos z1]
        rcases hlk with z | z
        · rw [z]; simp
        · rw [z]; simp)
      exact ⟨"make", hM, .inl ⟨_, _, a, b, hphi⟩⟩
/-- the first move -/
theorem run_start (ok : OkNet rows) (h4 : n ≤ 4) (hh : h < n) (hp : st.people = pplH n h []) (hl : st.lock = none) (hs : sortS st.made = st.made) (mn : st.made.Nodup) (mk : ∀ m ∈ st.made, m ∈ keysN rows) (mc : ∀ m ∈ st.made, ∀ x ∈ lookN rows m, x ∈ st.made) (h1 : n0 ∉ st.made) (hk : n0 ∈ keysN rows) (uh : ∀ u, U u → ∃ v ∈ lookN rows u, U v) (un : ∀ m ∈ st.made, ¬ U m) :
    OkPly rows (plyOf st) ∧ (h, n0) ∈ movesM rows one st ∧ ∃ st', StepOk rows one st (h, n0) (.st st') ∧ RunS rows n h U st.made n0 st' [(n0, -1)] := by
  have J := RunI.start (U := U) (fun k hk m hm => (ok.need k hk).2 m hm) mn mk mc h1 hk uh un
  have S : (plyOf st).people.getD h [] = [] := by
    show st.people.getD h [] = _
    rw [hp, pplH_at hh]
    rfl
  have hm5 : st.made.length ≤ 5 := by
    have := sub_lenG mn mk
    have h5 := ok.hi
    rw [List.length_map] at this
    omega
  have e : stepM rows one st (h, n0) = { plyOf st with people := pplH n h [(n0, -1)] } := by
    show doM rows one (plyOf st) h n0 = _
    unfold doM
    rw [S]
    show { plyOf st with people := st.people.set h [(n0, -1)] } = _
    rw [hp, show ([(n0, (-1 : Int))] : Stk) = ([(n0, (-1 : Int))] : Stk).reverse from rfl, pplH_set]
    rfl
  refine ⟨⟨ok, ?_, by show st.people.length ≤ 4; rw [hp, pplH_len]; exact h4, ?_, by show st.made.length < 64; omega, mk⟩, ?_, ?_⟩
  · intro s1 hs1 z hz
    have hs1' : s1 ∈ st.people := hs1
    rw [hp] at hs1'
    rcases pplH_mem hs1' with g | g
    · rw [g] at hz; cases hz
    · rw [g] at hz; cases hz
  · intro s1 hs1
    have hs1' : s1 ∈ st.people := hs1
    rw [hp] at hs1'
    rcases pplH_mem hs1' with g | g
    · rw [g]; exact Nat.zero_le _
    · rw [g]; exact Nat.zero_le _
  · refine mem_moves.mpr ⟨by rw [hp, pplH_len]; exact hh, ?_⟩
    unfold handM
    rw [S]
    exact List.mem_filter.mpr ⟨hk, by
      show (!decide (n0 ∈ st.made)) = true
      rw [decide_eq_false h1]
      rfl⟩
  · obtain ⟨a, b⟩ := step_mk (R' := [(n0, -1)]) (M0 := st.made) (n0 := n0) (U := U) ok h4 e rfl (by show RunI _ _ _ _ _ (sortS st.made) _; rw [hs]; exact J) rfl (.inl hl) (fun z => by cases z)
    exact ⟨_, a, b⟩
theorem phi_start (ok : OkNet rows) {M : List Str} : phiR (keysN rows) (lookN rows) M [(n0, -1)] ≤ 101 := by
  have h5 := ok.hi
  have h1 : (freeN (keysN rows) M [(n0, -1)]).length ≤ (keysN rows).length := List.length_filter_le ..
  rw [List.length_map] at h1
  have e : wtR (lookN rows) [(n0, -1)] = 1 := by
    show (if (-1 : Int) < 0 then 1 else _) + 0 = 1
    rw [if_pos (by decide), Nat.add_zero]
  unfold phiR
  omega
end
end K57

set_option Elab.async false
set_option linter.all false
set_option maxRecDepth 100000
set_option maxHeartbeats 4000000
/-! YX: expressions that change things; _law_own. -/
namespace K57
open PySem PySem.Spec PyProof.Rows L2
section
variable {X : Cx} {e1 e2 e3 a b : Expr} {σ : L2.St} {B H : Hp} {pos p : Pos} {Q : VK}
theorem we_add (h : WE X a σ H fun v1 H1 => ∃ i, v1 = .int i ∧ WE X b σ H1 fun v2 H2 => ∃ j, v2 = .int j ∧ Q (.int (i + j)) H2) : WE X (.BinOp a .Add b pos) σ H Q :=
  .of (pe_op op_add pe_w pe_w) (h.mono fun v1 H1 ⟨i, h1, k⟩ => k.mono fun v2 H2 ⟨j, h2, q⟩ => ⟨i, j, h1, h2, q⟩)
theorem we_tup3 {x1} (h : WE X e1 σ H fun v1 H1 => WE X e2 σ H1 fun v2 H2 => WE X e3 σ H2 fun v3 H3 => ∀ q, H3 q = none → Q (.ref q) (upd H3 q (.tup [v1, v2, v3]))) (g1 : starEach [e1, e2, e3] X.env = (false, eval e1 X.env) :: starEach [e2, e3] X.env := by rfl) (g2 : starEach [e2, e3] X.env = (false, eval e2 X.env) :: starEach [e3] X.env := by rfl) (g3 : starEach [e3] X.env = (false, eval e3 X.env) :: starEach [] X.env := by rfl) : WE X (.Tuple [e1, e2, e3] x1 pos) σ H Q :=
  .of (pe_tup (pa_cons pe_w (pa_cons pe_w (pa_cons pe_w pa_nil g3) g2) g1)) (h.mono fun v1 H1 h => h.mono fun v2 H2 h => h.mono fun v3 H3 h => ⟨by show 3 ≤ sizeLine; decide, h⟩)
theorem we_tup2 {x1} (h : WE X e1 σ H fun v1 H1 => WE X e2 σ H1 fun v2 H2 => ∀ q, H2 q = none → Q (.ref q) (upd H2 q (.tup [v1, v2]))) (g1 : starEach [e1, e2] X.env = (false, eval e1 X.env) :: starEach [e2] X.env := by rfl) (g2 : starEach [e2] X.env = (false, eval e2 X.env) :: starEach [] X.env := by rfl) : WE X (.Tuple [e1, e2] x1 pos) σ H Q :=
  .of (pe_tup (pa_cons pe_w (pa_cons pe_w pa_nil g2) g1)) (h.mono fun v1 H1 h => h.mono fun v2 H2 h => ⟨by show 2 ≤ sizeLine; decide, h⟩)
theorem we_call2W {sp : Sp} {k j : Nat} {n : Str} (c : C8.Cal X.prog X.w X.K X.mg X.base k n sp []) (hr : Room j X.A) (h : WE X e1 σ H fun v1 H1 => WE X e2 σ H1 fun v2 H2 => sp [v1, v2] H2 Q C8.E0) (hk : k ≤ j := by decide) (hg : Gl X n := by rfl)
    (hdb : (n == ("__debug__" : Str)) = false := by decide) (g1 : starEach [e1, e2] X.env = (false, eval e1 X.env) :: starEach [e2] X.env := by rfl) (g2 : starEach [e2] X.env = (false, eval e2 X.env) :: starEach [] X.env := by rfl) (hpl : (backTo pos (starEach [e2] X.env)).any (·.1) = false := by rfl) : WE X (.Call (.Name n p) [e1, e2] [] pos) σ H Q :=
  .of (C8.pe_c c hr hk hg (pa_cons pe_w (pa_cons pe_w pa_nil g2) g1) hdb g1 hpl) (h.mono fun v1 H1 h => h.mono fun v2 H2 h => h)
theorem we_ev {e : Expr} {v : V} (h : Ev X e σ B v) (l : Le B H) : WE X e σ H (fun v' H' => v' = v ∧ ∃ B', Stp B H B' H') := (h H l).mono fun v' H' ⟨B', s, p⟩ => ⟨p, B', s⟩
end
theorem PoolX.put {B H : Hp} {l D : Addr} {o : HO} (h : PoolX B H l) (hn : D ≠ l) (n : B D = none) : PoolX B (upd H D o) l := by
  obtain ⟨a, b, h1, h2, h3, h4, h5, h6⟩ := h
  exact ⟨a, b, by rw [upd_ne hn.symm]; exact h1, h2, h3, h4, h5, h6.mut n⟩
def ownK (g : Str) (q : Addr) (v : V) : List (Key × V) := [(.inr "way", .str "net"), (.inr "guard", .str g), (.inr "needs", .ref q), (.inr "numbers", v)]
/-- the promise of _law_own(pool, 'net') -/
def spOwn (K : PySem.W.Frag) : Sp := fun vs H Q _ => ∃ l B, vs = [.ref l, .str "net"] ∧ PoolX B H l ∧ ∀ o g q rows v B' H', okG g → OkNet rows → KvAt K B' q (rowsD rows) → B' o = none → H o = none → H' o = some (.dK (ownK g q v)) → StpX [l] B H B' H' → PoolX B' H' l → Q (.ref o) H'
section
variable {P : Program} {w : World} {K : PySem.W.Frag} {mg : Str → Option Value} {base : Heap} (T : Tx P K mg)
include T
theorem cal_law_own : C8.Cal P w K mg base 4 "_law_own" (spOwn K) [] := by
  obtain ⟨fd, F⟩ := T.d__law_own
  refine ⟨_, fd, ["pool", "way"], [], fn_w F (N := ["pool", "way", "own", "word"]) ⟨rfl, rfl, rfl, by decide +kernel, rfl, by decide +kernel, by decide +kernel⟩ (fun vs H Q E ⟨_, _, e, _⟩ => by rw [e]; rfl) ?_, T.g__law_own, F.kp, F.bindsN (fun _ _ _ _ _ _ us hl => match us, hl with | [_, _], _ => rfl), .nil⟩
  intro cdv A0 outer s0 H0 vs H Q E hr ⟨l, B, e, hp, fin⟩
  subst e
  refine cb_setW 2 (we_disp1 (P1 := Pd.v (.str "net")) (ev_name (i := 1) rfl) H hp.le) fun ov H1 ⟨o, v1, B1, H2, e1, ho, hB1, h2o, s1, p1, e2⟩ => ?_
  have p1' : v1 = .str "net" := p1
  subst e1 p1' e2
  have s2 : Stp B H B1 H2 := (Stp.keep hp.le (same_new ho)).trans s1
  have hol : o ≠ l := fun e => hp.has l (List.mem_singleton.mpr rfl) (by rw [← e]; exact ho)
  have hol' : o ∉ [l] := fun h => hol (List.mem_singleton.mp h)
  have hp3 : PoolX B1 (upd H2 o (.dK [(.inr "way", .str "net")])) l := (hp.step s2).put hol hB1
  have x3 : StpX [l] B H B1 (upd H2 o (.dK [(.inr "way", .str "net")])) := s2.x.newD ho hB1
  have hBo : B o = none := le_none hp.le ho
  refine cb_forL 3 (as := [.str "guard", .str "needs"]) (ev_call (cal_words T) hr (ea_1 (ev_name (i := 1) rfl)) fun vs B2 l2 h => ?_) hp3.le (fun B' i σ' H' => ∃ B2, Le B' B2 ∧ StpX [l] B H B2 H' ∧ PoolX B2 H' l ∧ B2 o = none ∧ ((i = 0 ∧ H' o = some (.dK [(.inr "way", .str "net")])) ∨ (i = 1 ∧ ∃ g, okG g ∧ H' o = some (.dK [(.inr "way", .str "net"), (.inr "guard", .str g)])) ∨ (i = 2 ∧ ∃ g q rows, okG g ∧ OkNet rows ∧ KvAt K B2 q (rowsD rows) ∧ H' o = some (.dK [(.inr "way", .str "net"), (.inr "guard", .str g), (.inr "needs", .ref q)]))) ∧ ∃ c3, σ' = [some (.ref l), some (.str "net"), some (.ref o), c3])
    (fun B' H' t => ?_) (fun B' i σ' H' ⟨B2, l2, x2, hp2, _⟩ => l2.trans hp2.le) (fun B' i dd v σ' H' lB hi hvv ⟨B2, l2, x2, hp2, n2, hc, c3, eσ⟩ => ?_) (fun B' σ' H' lB ⟨B2, l2, x2, hp2, n2, hc, c3, eσ⟩ => ?_)
  · obtain ⟨w1, rfl, e1⟩ := holds1 h
    exact ⟨by rw [show w1 = _ from e1], rfl⟩
  · exact ⟨B', Le.refl _, x3.trans t.x hp3.has, hp3.step t, t.non o hB1 (by rw [upd_same]; simp), .inl ⟨rfl, t.same _ _ upd_same⟩, none, rfl⟩
  · subst eσ
    rcases hc with ⟨ei, ho2⟩ | ⟨ei, g, hg, ho2⟩ | ⟨ei, _⟩
    · subst ei
      cases hi
      have ev : v = .str "guard" := dp_str hvv
      subst ev
      refine ws_if (k := false) (et_eqs (ev_name (i := 3) rfl) ev_str rfl (by decide +kernel)) hp2.le (fun q => nomatch q) fun _ H3 t3 => ?_
      have k3 : Stp B2 H' B2 H3 := Stp.keep hp2.le t3
      have hp3 := hp2.step k3
      have x3 := x2.trans k3.x hp2.has
      refine ws_keyW (a := o) (z := "guard") (ru1 hr) (we_call (cal_one T) hr hp3.le (ea_cons (ev_name (i := 0) rfl) (ea_1 (ev_call (R := Pd.d K (.list [.str "own", .str "one"])) (cal_choices T) hr (ea_cons (ev_name (i := 1) rfl) (ea_1 (ev_name (i := 3) rfl))) fun vs B4 l4 h => ?_))) (fun vs B4 H4 t hs => ?_) (Q := fun v H' => ∃ B' g, okG g ∧ v = .str g ∧ StpX [l] B H B' H' ∧ PoolX B' H' l ∧ B' o = none ∧ H' o = some (.dK [(.inr "way", .str "net")]) ∧ Le B2 B')) fun u H4 ⟨B4, g, hg, e4, x4, hp4, n4, ho4, l4⟩ => ⟨B4, _, hp4.le, (ev_name (i := 2) rfl), (ev_name (i := 3) rfl), ho4, by show 1 < 1000; decide, fun H5 s5 => ?_⟩
      · obtain ⟨w1, w2, rfl, e1, e2⟩ := holds2 h
        exact ⟨by rw [show w1 = _ from e1, show w2 = _ from e2], rfl⟩
      · obtain ⟨w1, w2, rfl, e1, e2⟩ := holds2 hs
        refine ⟨l, w2, B4, _, by rw [show w1 = _ from e1], hp3.step t, e2, by decide, by decide, fun d x B' H' hd hx t2 hp' => ?_⟩
        have x5 := (x3.trans t.x hp3.has).trans t2 (hp3.step t).has
        have n4 : B4 o = none := t.non o n2 (by rw [t3 _ _ ho2]; simp)
        have o4 := t.same _ _ (t3 _ _ ho2)
        have hn : B' o = none := t2.non o n4 (by rw [o4]; simp)
        have h5 := t2.same o _ hol' o4
        rcases List.mem_cons.mp hd with e | e
        · subst e
          exact ⟨B', "own", .inl rfl, dp_str hx, x5, hp', hn, h5, t.up.trans t2.up⟩
        · have e := List.mem_singleton.mp e
          subst e
          exact ⟨B', "one", .inr rfl, dp_str hx, x5, hp', hn, h5, t.up.trans t2.up⟩
      · subst e4
        have x6 := x4.step s5
        have hp6 := hp4.step (Stp.keep hp4.le s5)
        exact ws_nil (ws_nil ⟨B4, l2.trans l4, x6.newD ho n4, hp6.put hol n4, n4, .inr (.inl ⟨rfl, g, hg, upd_same⟩), _, rfl⟩)
    · subst ei
      cases hi
      have ev : v = .str "needs" := dp_str hvv
      subst ev
      refine ws_if (k := true) (et_eqs (ev_name (i := 3) rfl) ev_str rfl (by decide +kernel)) hp2.le (fun _ H3 t3 => ?_) (fun q => nomatch q)
      have k3 : Stp B2 H' B2 H3 := Stp.keep hp2.le t3
      have hp3 := hp2.step k3
      have x3 := x2.trans k3.x hp2.has
      have o3 := t3 _ _ ho2
      refine ws_keyW (a := o) (z := "needs") (ru1 hr) (Q' := fun v H' => ∃ B' q rows, OkNet rows ∧ KvAt K B' q (rowsD rows) ∧ v = .ref q ∧ StpX [l] B H B' H' ∧ PoolX B' H' l ∧ B' o = none ∧ H' o = some (.dK [(.inr "way", .str "net"), (.inr "guard", .str g)]) ∧ Le B2 B') (we_call2W (cal_law_needs T) hr ((we_ev (B := B2) (ev_name (i := 0) rfl) hp3.le).mono fun w1 H4 ⟨e1, B4, s4⟩ => (we_takeEq (R := fun _ B' H' => StpX [l] B4 H4 B' H' ∧ PoolX B' H' l) (WE.mono (we_take (cal_take T) hr (hp3.step s4) (ev_name (i := 0) rfl) ev_int (m := 3) (by decide) (by decide)) fun v H' ⟨r, B', e1, _, h1, h2⟩ => ⟨r, B', e1, h1, h2⟩) (fun r B' H' H2 ⟨h1, h2⟩ s => ⟨h1.step s, h2.step (Stp.keep h2.le s)⟩)).mono fun w2 H5 ⟨b, e2, r, B5, x5, hp5⟩ => ?_)) fun u H4 ⟨B4, q, rows, ok, kv, e4, x4, hp4, n4, ho4, l4⟩ => ⟨B4, _, hp4.le, (ev_name (i := 2) rfl), (ev_name (i := 3) rfl), ho4, by show 2 < 1000; decide, fun H5 s5 => ?_⟩
      · subst e1 e2
        refine ⟨l, b, B5, rfl, hp5, fun q rows B' H' ok kv x6 hp6 => ?_⟩
        have n4 : B4 o = none := s4.non o n2 (by rw [o3]; simp)
        have o4 := s4.same _ _ o3
        have n5 := x5.non o n4 (by rw [o4]; simp)
        have o5 := x5.same o _ hol' o4
        exact ⟨B', q, rows, ok, kv, rfl, ((x3.trans s4.x hp3.has).trans x5 (hp3.step s4).has).trans x6 hp5.has, hp6, x6.non o n5 (by rw [o5]; simp), x6.same o _ hol' o5, (s4.up.trans x5.up).trans x6.up⟩
      · subst e4
        have x6 := x4.step s5
        have hp6 := hp4.step (Stp.keep hp4.le s5)
        exact ws_nil (ws_nil ⟨B4, l2.trans l4, x6.newD ho n4, hp6.put hol n4, n4, .inr (.inr ⟨rfl, g, q, rows, hg, ok, kv, upd_same⟩), _, rfl⟩)
    · subst ei
      cases hi
  · subst eσ
    rcases hc with ⟨ei, ho2⟩ | ⟨ei, g, hg, ho2⟩ | ⟨ei, g, q, rows, hg, ok, kv, ho2⟩
    · cases ei
    · cases ei
    have stepX : ∀ B3 H3, StpX [l] B2 H' B3 H3 → B3 o = none ∧ H3 o = some (.dK [(.inr "way", .str "net"), (.inr "guard", .str g), (.inr "needs", .ref q)]) := fun B3 H3 x => ⟨x.non o n2 (by rw [ho2]; simp), x.same o _ hol' ho2⟩
    refine ws_keyW (a := o) (z := "numbers") (ru1 hr) (Q' := fun v H3 => ∃ B3, StpX [l] B2 H' B3 H3 ∧ PoolX B3 H3 l) (we_tup3 (we_add (we_add ((we_ev (B := B2) ev_int hp2.le).mono fun w1 H4 ⟨e1, B4, s4⟩ => ⟨1, e1, (we_take (cal_take T) hr (hp2.step s4) (ev_name (i := 0) rfl) ev_int (m := 3) (by decide) (by decide)).mono fun w2 H5 ⟨r, B5, e2, _, x5, hp5⟩ => ⟨r, e2, 1 + r, rfl, (we_ev (B := B5) (ev_intB (i := false) T.f_int rfl (ev_eqs (k := false) (ev_name (i := 1) rfl) ev_str rfl (by decide +kernel))) hp5.le).mono fun w3 H6 ⟨e3, B6, s6⟩ => ⟨_, e3, ?_⟩⟩⟩)))) fun u H3 ⟨B3, x3, hp3⟩ => ⟨B3, _, hp3.le, (ev_name (i := 2) rfl), ev_str, (stepX B3 H3 x3).2, by show 3 < 1000; decide, fun H4 s4 => ?_⟩
    · have hp6 := hp5.step s6
      have x6 : StpX [l] B2 H' B6 H6 := (s4.x.trans x5 (hp2.step s4).has).trans s6.x hp5.has
      refine we_add ((we_ev (B := B6) ev_int hp6.le).mono fun w1 H7 ⟨e1, B7, s7⟩ => ⟨1, e1, (we_take (cal_take T) hr (hp6.step s7) (ev_name (i := 0) rfl) ev_int (m := 3) (by decide) (by decide)).mono fun w2 H8 ⟨r, B8, e2, _, x8, hp8⟩ => ⟨r, e2, (we_take (cal_take T) hr hp8 (ev_name (i := 0) rfl) ev_int (m := 3) (by decide) (by decide)).mono fun w3 H9 ⟨r9, B9, e9, _, x9, hp9⟩ => fun t ht => ?_⟩⟩)
      exact ⟨B9, (((x6.trans s7.x hp6.has).trans x8 (hp6.step s7).has).trans x9 hp8.has).step (same_new ht), hp9.step (Stp.keep hp9.le (same_new ht))⟩
    · have ⟨n3, o3⟩ := stepX B3 H3 x3
      have x4 := (x2.trans x3 hp2.has).step s4
      have hp4 := hp3.step (Stp.keep hp3.le s4)
      refine ws_retW (Q' := fun v H'' => v = .ref o ∧ Same (upd H4 o (.dK (ownK g q u))) H'') ((we_ev (B := B3) (ev_name (i := 2) rfl) (hp4.put hol n3).le).mono fun v H5 ⟨e5, B5, s5⟩ => ⟨e5, s5.same⟩) fun v H5 ⟨e5, s5⟩ => ?_
      subst e5
      have hp5 := hp4.put (o := .dK (ownK g q u)) hol n3
      exact fin o g q rows u B3 H5 hg ok (kv.le x3.up) n3 ho (s5 _ _ upd_same) ((x4.newD ho n3).step s5) (hp5.step (Stp.keep hp5.le s5))
end
end K57

set_option Elab.async false
set_option linter.all false
set_option maxRecDepth 100000
set_option maxHeartbeats 4000000
/-! YY: _law_book, _law_setting, _law_sorted. -/
namespace K57
open PySem PySem.Spec PyProof.Rows L2
section
variable {g : Str} {q : Addr} {v : V}
theorem own_way : valV (ownK g q v) (Sum.inr "way") = some (.str "net") := valV_pos rfl
theorem own_guard : valV (ownK g q v) (Sum.inr "guard") = some (.str g) := (valV_neg (keyNe (by decide +kernel))).trans (valV_pos rfl)
theorem own_needs : valV (ownK g q v) (Sum.inr "needs") = some (.ref q) := (valV_neg (keyNe (by decide +kernel))).trans ((valV_neg (keyNe (by decide +kernel))).trans (valV_pos rfl))
theorem own_numbers : valV (ownK g q v) (Sum.inr "numbers") = some v := (valV_neg (keyNe (by decide +kernel))).trans ((valV_neg (keyNe (by decide +kernel))).trans ((valV_neg (keyNe (by decide +kernel))).trans (valV_pos rfl)))
end
section
variable {X : Cx} {e e1 e2 e3 e4 o i : Expr} {σ : L2.St} {B H : Hp} {pos px p k1 k2 : Pos} {D : Ends} {rest : List Stmt}
/-- o[i] = e, o an instance with its own __setitem__ -/
theorem ws_setOwn {Q' : VK} {k : Nat} {C g : Addr} {fd : FuncData} {ps : List Str} {sp : Sp} (c : SubO X.K C g "__setitem__") (F : FnOk X.prog X.w X.K X.mg X.base CX0 k g fd ps sp) (hr : Room k X.A) (hb : Binds X.K fd ps [])
    (h : WE X e σ H Q') (kk : ∀ v H', Q' v H' → WE X o σ H' fun ov H1 => WE X i σ H1 fun iv H2 => ∃ a dx fs, ov = .ref a ∧ H2 a = some (.ins C dx fs) ∧ sp [ov, iv, v] H2 (fun _ H3 => WSs X rest D σ H3) E0)
    (ha : ∀ v, assign (.Subscript o i px) X.env v = (do
      let ov ← holding [v] (eval o X.env)
      let iv ← holding [v, ov] (eval i X.env)
      standAt px
      holding [v, ov, iv] (setItem ov iv v)
      release [v, ov, iv] []) := by intro _; rfl) (hs : swapsWithSole [.Subscript o i px] e pos.line X.env = pure false := by rfl) (hw : swappedStores [.Subscript o i px] e X.env = pure none := by rfl) :
    WSs X (.Assign [.Subscript o i px] e pos :: rest) D σ H :=
  ws_cons (ps_asg (pe_w (e := e)) (pg_sub pe_w pe_w (set_own c F hr hb) ha) hs hw) (h.mono kk)
end
section
variable {P : Program} {w : World} {K : PySem.W.Frag} {mg : Str → Option Value} {base : Heap} (T : Tx P K mg)
include T
def A_lbook (K : PySem.W.Frag) : List V → Hp → Pd → Prop := fun vs B R => ∃ o g q v rows, vs = [.ref o] ∧ Rd B o (.dK (ownK g q v)) ∧ okG g ∧ OkNet rows ∧ KvAt K B q (rowsD rows) ∧ R = Pd.book K g (sortN rows)
theorem cal_law_book : C8.Cal P w K mg base 9 "_law_book" (pureSp (A_lbook K)) [] :=
  cal_pure T.d__law_book T.g__law_book ⟨rfl, rfl, rfl, by decide +kernel, rfl, by decide +kernel, by decide +kernel⟩ (fun _ _ _ _ _ _ us hl => match us, hl with | [_], _ => rfl) (N := ["own", "book", "word"]) (ps := ["own"]) (fun vs B R ⟨_, _, _, _, _, e, _⟩ => by rw [e]; rfl)
    fun cdv A0 outer s H0 E vs B H R D hr l ⟨o, g, q, v, rows, e, hd, hg, ok, kv, eR⟩ q1 q2 => by
      subst e
      subst eR
      obtain ⟨fd, F, hb⟩ := fn_Book_set (P := P) (w := w) (base := base) T
      refine ws_ifY (et_eqs (ev_get (ev_name (i := 0) rfl) hd ev_str own_way (ru1 hr)) ev_str rfl (by decide +kernel)) l fun H1 t1 => ?_
      have l1 := l.trans (le_of t1)
      refine cb_setW 1 ((we_makeD (mak_NetBook T) hr (Fs := fun fs B' => BookFs K B' fs "own" (sortN rows)) (ea_1 (ev_make (P := Pd.net K (sortN rows)) (Fs := fun fs B' => ∃ r : Addr, fs = [(("rows" : Str), V.ref r)] ∧ KvAt K B' r (rowsD (sortN rows))) (mak_Net T) hr (ea_1 (ev_get (ev_name (i := 0) rfl) hd ev_str own_needs (ru1 hr))) (fun vs B2 l2 h => ?_) (fun p dx fs B' hB ⟨r, e1, e2⟩ => ?_))) (fun vs B2 l2 h => ?_)) H1 l1) fun bv H2 ⟨p, dx, fs, B2, e1, hp, hBp, s2, h2, hf⟩ => ?_
      · obtain ⟨w1, rfl, e1⟩ := holds1 h
        exact ⟨q, rows, by rw [show w1 = _ from e1], kv.le l2, ok, rfl⟩
      · subst e1
        exact ⟨p, rfl, dx, r, upd_same, e2.le (Le.new hB)⟩
      · obtain ⟨w1, rfl, r, e1, e2⟩ := holds1 h
        subst e1
        exact ⟨r, "own", sortN rows, rfl, e2, .inl rfl, rfl⟩
      · subst e1
        refine ws_setOwn T.u_NetBook_setitem F (hr.mono (by decide)) hb (we_ev (B := B2) (ev_get (ev_name (i := 0) rfl) (s2.up.dk hd) ev_str own_guard (ru1 hr)) s2.lo) fun v3 H3 ⟨e3, B3, s3⟩ => (we_ev (B := B3) (ev_name (i := 1) rfl) s3.lo).mono fun v4 H4 ⟨e4, B4, s4⟩ => (we_ev (B := B4) ev_str s4.lo).mono fun v5 H5 ⟨e5, B5, s5⟩ => ?_
        subst e3 e4 e5
        have s35 := (s3.trans s4).trans s5
        have h5 := s35.same _ _ h2
        have n5 : B5 p = none := s35.non p hBp (by rw [h2]; simp)
        refine ⟨p, dx, fs, rfl, h5, p, dx, fs, "own", g, sortN rows, B5, rfl, h5, n5, s35.lo, hf.le s35.up, hg, fun fs' B6 H6 x6 h6 n6 hf6 => ?_⟩
        have s6 : Stp B H B6 H6 := ((Stp.keep l t1).trans (s2.trans s35)).ownX (t1.free hp) n5 (by rw [h5]; simp) x6
        have s7 := s6.own (t1.free hp) h6 n6
        refine ws_ret (P := Pd.book K g (sortN rows)) (EvP.imp ((ev_name (i := 1) rfl) : Ev _ _ _ (upd B6 p _) (.ref p)) fun v' H' l' e' => ?_) s7.lo fun v' B' H' s p' => q1 v' B' H' (s7.trans s) p'
        have e'' : v' = .ref p := e'
        subst e''
        exact ⟨p, rfl, dx, fs', l'.ins upd_same, hf6.le ((Le.new n6).trans l')⟩
def A_lset (K : PySem.W.Frag) : List V → Hp → Pd → Prop := fun vs B R => ∃ o g q v rows n, vs = [.ref o] ∧ Rd B o (.dK (ownK g q v)) ∧ okG g ∧ OkNet rows ∧ KvAt K B q (rowsD rows) ∧ Dp K B v (.tuple [.int n, .int 1, .int 0]) ∧ 1 ≤ n ∧ n ≤ 4 ∧ R = Pd.set K g (sortN rows) n
theorem cal_law_setting : C8.Cal P w K mg base 11 "_law_setting" (pureSp (A_lset K)) [] :=
  cal_pure T.d__law_setting T.g__law_setting ⟨rfl, rfl, rfl, by decide +kernel, rfl, by decide +kernel, by decide +kernel⟩ (fun _ _ _ _ _ _ us hl => match us, hl with | [_], _ => rfl) (N := ["own"]) (ps := ["own"]) (fun vs B R ⟨_, _, _, _, _, _, e, _⟩ => by rw [e]; rfl)
    fun cdv A0 outer s H0 E vs B H R D hr l ⟨o, g, q, v, rows, n, e, hd, hg, ok, kv, hv, n1, n4, eR⟩ q1 q2 => by
      subst e
      subst eR
      obtain ⟨fd, F, FO⟩ := fn_Set_init (P := P) (w := w) (base := base) T
      obtain ⟨its, mv, hb⟩ := F.kbinds (ps := ["self", "book", "hands", "makes", "fails"]) 3 ["makes", "fails"] [] (fun us _ _ ws => us ++ ws) (by simp) (by simp) (fun q hq => by cases hq) (fun r1 _ _ r2 => r1.append r2) (fun _ _ _ _ _ _ _ us its mv ws h1 h2 h3 h4 => match us, its, ws, mv, h1, h2, h4, h3 with
        | [_, _, _], [_], [_, _], [], _, _, _, _ => ⟨_, rfl, rfl⟩)
      refine ws_retW (WE.of (pe_makeK T.k_Setting FO (hr.mono (by decide)) rfl T.g_Setting hb pass0 (pa_cons pe_w (pa_cons pe_w pa_nil)) (pk_cons pe_w (pk_cons pe_w pk_nil))) (Q := fun u H' => ∃ B', Stp B H B' H' ∧ (Pd.set K g (sortN rows) n).p u B') ?_) fun u H' ⟨B', s, p⟩ => q1 u B' H' s p
      refine WE.mono ((ev_call (R := Pd.book K g (sortN rows)) (cal_law_book T) hr (ea_1 (ev_name (i := 0) rfl)) fun vs B2 l2 h => ?_) H l) fun v1 H1 ⟨B1, s1, b, e1, p1⟩ => ?_
      · obtain ⟨w1, rfl, e1⟩ := holds1 h
        exact ⟨o, g, q, v, rows, by rw [show w1 = _ from e1], l2.dk hd, hg, ok, kv.le l2, rfl⟩
      refine WE.mono ((ev_sc (v := .int n) (ed_ixT (ev_d (ev_get (ev_name (i := 0) rfl) (s1.up.dk hd) ev_str own_numbers (ru1 hr)) (s1.up.dp hv)) ev_int rfl) rfl) H1 s1.lo) fun v2 H2 ⟨B2, s2, e2⟩ => ?_
      have s12 := s1.trans s2
      refine WE.mono ((ev_sc (v := .int 1) (ed_ixT (ev_d (ev_get (ev_name (i := 0) rfl) (s12.up.dk hd) ev_str own_numbers (ru1 hr)) (s12.up.dp hv)) ev_int rfl) rfl) H2 s12.lo) fun v3 H3 ⟨B3, s3, e3⟩ => ?_
      have s13 := s12.trans s3
      refine WE.mono ((ev_sc (v := .int 0) (ed_ixT (ev_d (ev_get (ev_name (i := 0) rfl) (s13.up.dk hd) ev_str own_numbers (ru1 hr)) (s13.up.dp hv)) ev_int rfl) rfl) H3 s13.lo) fun v4 H4 ⟨B4, s4, e4⟩ => ?_
      have s14 := s13.trans s4
      have e2' : v2 = .int n := e2
      have e3' : v3 = .int 1 := e3
      have e4' : v4 = .int 0 := e4
      subst e1 e2' e3' e4'
      have mo := made_of (C := cSetting K) (A := A_Set K) (vs := [.ref b, .int n, .int 1, .int 0]) (Q := fun u H' => ∃ B', Stp B H B' H' ∧ (Pd.set K g (sortN rows) n).p u B') (E := E0) s14 ⟨b, g, sortN rows, n, rfl, p1.le ((s2.trans s3).trans s4).up, hg, n1, n4, rfl⟩ fun u H' m => MadeP.pd (P := Pd.set K g (sortN rows) n) (fun p dx fs B' hB hf => ⟨p, rfl, dx, fs, upd_same, hf.le (Le.new hB)⟩) m
      exact ⟨rfl, rfl, mo⟩
def A_lsort (K : PySem.W.Frag) : List V → Hp → Pd → Prop := fun vs B R => ∃ x ss, vs = [x] ∧ (Dp K B x (.list (ss.map .str)) ∨ ∃ d kvs, x = .ref d ∧ Rd B d (.dK kvs) ∧ kvs.map (·.1) = ss.map Sum.inr) ∧ ss.length < 64 ∧ R = Pd.d K (.list ((sortS ss).map .str))
theorem cal_law_sorted : C8.Cal P w K mg base 1 "_law_sorted" (pureSp (A_lsort K)) [] :=
  cal_pure T.d__law_sorted T.g__law_sorted ⟨rfl, rfl, rfl, by decide +kernel, rfl, by decide +kernel, by decide +kernel⟩ (fun _ _ _ _ _ _ us hl => match us, hl with | [_], _ => rfl) (N := ["words", "word"]) (ps := ["words"]) (fun vs B R ⟨_, _, e, _⟩ => by rw [e]; rfl)
    fun cdv A0 outer s H0 E vs B H R D hr l ⟨x, ss, e, hx, h64, eR⟩ q1 q2 => by
      subst e
      subst eR
      rcases hx with hx | ⟨d, kvs, ex, hd, hk⟩
      · refine ws_ret (P := Pd.d K (.list ((sortS ss).map .str))) (EvL.toD (el_sortedS T.f_sorted rfl (EvL.toD (EvP.imp (cb_lcL 1 (as := ss) (φ := .str) (F := fun _ => true) (G := .str) (ev_d (ev_name (i := 0) rfl) hx) (fun c hc v B1 lb hp s1 H1 C cl fp => ei_nil) (fun c hc hF v B1 lb hp s1 H1 C cl fp => ?_) (by omega)) fun v H' _ h => by
          rw [List.filter_eq_self.mpr (fun _ _ => rfl)] at h
          exact h)) h64 (fun zs p h => sortS_eq p h))) l q1
        rw [dp_str hp]
        exact ev_d (ev_strS T.f_str rfl (ev_name (i := 1) rfl)) (.str c)
      · subst ex
        refine ws_ret (P := Pd.d K (.list ((sortS ss).map .str))) (EvL.toD (el_sortedS T.f_sorted rfl (EvL.toD (EvP.imp (cb_lcK 1 (F := fun _ => true) (G := .str) (ev_name (i := 0) rfl) hd hk (fun c hc v B1 lb hp s1 H1 C cl fp => ei_nil) (fun c hc hF v B1 lb hp s1 H1 C cl fp => ?_) (by omega)) fun v H' _ h => by
          rw [List.filter_eq_self.mpr (fun _ _ => rfl)] at h
          exact h)) h64 (fun zs p h => sortS_eq p h))) l q1
        rw [dp_str hp]
        exact ev_d (ev_strS T.f_str rfl (ev_name (i := 1) rfl)) (.str c)
end
end K57

set_option Elab.async false
set_option linter.all false
set_option maxRecDepth 100000
set_option maxHeartbeats 4000000
/-! XA: _law_alone. -/
namespace K57
open PySem PySem.Spec PyProof.Rows L2
section
variable {X : Cx} {a e1 e2 : Expr} {σ : L2.St} {B H : Hp} {pos : Pos} {ds : List PyData}
theorem et_isntT (ha : EvD X a σ H (.tuple ds)) {j} {p2 : Pos} : EvT X (.Compare a [.IsNot] [.Constant .none j p2] pos) σ H true :=
  et_cmp op_notN ha ev_none fun v1 v2 B H' _ l h1 h2 Q q => ⟨h2, by
    obtain ⟨q1, xs, e, _⟩ := dp_tuple h1
    rw [e]
    exact q _ (Same.refl _)⟩
/-- b(e), b a bench -/
theorem we_own1 {C g : Addr} {fd : FuncData} {ps : List Str} {sp : Sp} {k : Nat} {b : Addr} {P1 : Pd} {Q : VK} (c : SubO X.K C g "__call__") (F : FnOk X.prog X.w X.K X.mg X.base CX0 k g fd ps sp) (hb : Binds X.K fd ps []) (hr : Room k X.A) (l : Le B H) (h1 : Ev X e1 σ B (.ref b)) (h2 : EvP X e2 σ B P1)
    (h : ∀ v B2 H2, Stp B H B2 H2 → P1.p v B2 → (∃ dx fs, H2 b = some (.ins C dx fs)) ∧ sp [.ref b, v] H2 Q E0)
    (ht : eval (.Call e1 [e2] [] pos) X.env = (do callWith pos (← eval e1 X.env) [] (backTo pos (starEach [e2] X.env)) (backToKw pos (keywordEach [] X.env))) := by rfl)
    (he : starEach [e2] X.env = (false, eval e2 X.env) :: starEach [] X.env := by rfl) : WE X (.Call e1 [e2] [] pos) σ H Q :=
  .of (StX.pe_callO pe_w ⟨c.at_, c.fn, c.fi⟩ (F.raw hb .nil) hr pass0 (pa_cons pe_w pa_nil he) ht he) ((h1 H l).mono fun y H1 ⟨B1, s1, (e : y = .ref b)⟩ => ⟨b, e, (h2.le s1.up H1 s1.lo).mono fun v H2 ⟨B2, s2, p⟩ => by
    obtain ⟨⟨dx, fs, g1⟩, g2⟩ := h v B2 H2 (s1.trans s2) p
    exact ⟨.inr ⟨dx, fs, g1⟩, g2⟩⟩)
end
/-- the promise of _law_alone(bench, hand) -/
def spAlone (K : PySem.W.Frag) : Sp := fun vs H Q _ => ∃ p h B dl sl g rows n st c M0 n0 U R, vs = [.ref p, .int (h : Nat)] ∧ BenchX K B H p dl sl g rows n (.st st) c ∧ c < 80000 ∧ OkNet rows ∧ n ≤ 4 ∧ h < n ∧ RunS rows n h U M0 n0 st R ∧ phiR (keysN rows) (lookN rows) st.made R ≤ 200 ∧
  (∀ st' c' B' H', StpX [p, dl, sl] B H B' H' → BenchX K B' H' p dl sl g rows n (.st st') c' → c' ≤ c + 200 → RunS rows n h U M0 n0 st' [] → Q (.str "out") H') ∧
  (∀ q r st' c' B' H', StpX [p, dl, sl] B H B' H' → BenchX K B' H' p dl sl g rows n (.bad h q.1) c' → c' ≤ c + 201 → RunS rows n h U M0 n0 st' (q :: r) → q.1 ∉ st'.made → q.1 ∈ ownd r → Q (.str "fault") H')
theorem BenchX.slot {K : PySem.W.Frag} {B H : Hp} {p dl sl : Addr} {g : Str} {rows : List (Str × List Str)} {n c : Nat} {r : Res} (h : BenchX K B H p dl sl g rows n r c) : ∃ dx fs, H p = some (.ins (cBench K) dx fs) :=
  let ⟨dx, sa, ms, ini, v, h1, _⟩ := h
  ⟨dx, _, h1⟩
theorem okStk {rows : List (Str × List Str)} {n h : Nat} {U : Str → Prop} {M0 : List Str} {n0 : Str} {st : Sta} {R : Stk} (ok : OkNet rows) (hh : h < n) (I : RunS rows n h U M0 n0 st R) : ∀ q ∈ R.reverse, okName q.1 = true := fun q hq => ok.nm _ (I.inv.sk q (List.mem_reverse.mp hq)).1
section
variable {P : Program} {w : World} {K : PySem.W.Frag} {mg : Str → Option Value} {base : Heap} (T : Tx P K mg)
include T
theorem cal_law_alone : C8.Cal P w K mg base 12 "_law_alone" (spAlone K) [] := by
  obtain ⟨fd, F⟩ := T.d__law_alone
  obtain ⟨fd1, F1, hb1⟩ := fn_bget (P := P) (w := w) (base := base) T
  obtain ⟨fd2, F2, hb2⟩ := fn_bcall (P := P) (w := w) (base := base) T
  refine ⟨_, fd, ["bench", "hand"], [], fn_w F (N := ["bench", "hand", "some", "move"]) ⟨rfl, rfl, rfl, by decide +kernel, rfl, by decide +kernel, by decide +kernel⟩ (fun vs H Q E ⟨_, _, _, _, _, _, _, _, _, _, _, _, _, _, e, _⟩ => by rw [e]; rfl) ?_, T.g__law_alone, F.kp, F.bindsN (fun _ _ _ _ _ _ us hl => match us, hl with | [_, _], _ => rfl), .nil⟩
  intro cdv A0 outer s0 H0 vs H Q E hr ⟨p, h, B, dl, sl, g, rows, n, st, c, M0, n0, U, R, e, hx, hc, ok, h4, hh, I, hphi, k1, k2⟩
  subst e
  refine cb_while (fun m σ' H' => ∃ B2 st2 R2 c2 o2 o3, StpX [p, dl, sl] B H B2 H' ∧ BenchX K B2 H' p dl sl g rows n (.st st2) c2 ∧ RunS rows n h U M0 n0 st2 R2 ∧ m = phiR (keysN rows) (lookN rows) st2.made R2 ∧ c2 + m ≤ c + 200 ∧ σ' = [some (.ref p), some (.int (h : Nat)), o2, o3]) (phiR (keysN rows) (lookN rows) st.made R) ⟨B, st, R, c, none, none, StpX.refl hx.le, hx, I, rfl, by omega, rfl⟩ fun m σ' H1 ⟨B2, st2, R2, c2, o2, o3, x2, hx2, I2, em, hcm, eσ⟩ => ?_
  subst eσ
  have okp := I2.ok ok h4
  have hlen : st2.people.length = n := by rw [I2.ppl, pplH_len]
  have hget : st2.people.getD h [] = R2.reverse := by rw [I2.ppl, pplH_at hh]
  obtain ⟨B3, l3, l3', hE, hk3⟩ := hx2.known
  have hAt : BenchAt K B3 p g rows n (.st st2) := by
    obtain ⟨dx, sa, ms, ini, v, hE⟩ := hE
    exact ⟨dl, sl, c2, dx, sa, ms, ini, v, hE⟩
  obtain ⟨dx, sa, ms, ini, v, hE1, hE2, hE3, hsa, h5, hE6, hE7⟩ := hE
  refine WT.mono ((et_ned (d1 := stackD R2.reverse) (d2 := .tuple []) (ru64 hr) (ev_own (R := Pd.d K (stackD R2.reverse)) T.u_Bench_getitem F1 hr hb1 (ev_name (i := 0) rfl) hE1 (ev_name (i := 1) rfl) (fun v B4 l4 e => ?_)) ed_nilT (shapedP (okStk ok hh I2)) (by rfl) (congrArg (fun b => !b) (eqv_nilT _))) H1 l3') fun b H4 ⟨eb, t4⟩ => ?_
  · have e' : v = .int (h : Nat) := e
    exact ⟨p, g, rows, n, st2, h, by rw [e'], hAt.le l4, hlen, hh, by rw [hget]⟩
  have s4 : Stp B3 H1 B3 H4 := Stp.keep l3' t4
  cases R2 with
  | nil =>
    have eb' : b = false := eb
    subst eb'
    rw [if_neg (by decide)]
    obtain ⟨B4, s5, hx5, _⟩ := hk3 B3 H4 s4
    refine ws_ret (P := Pd.v (.str "out")) ev_str hx5.le fun v' B' H' s p => ?_
    have ev : v' = .str "out" := p
    subst ev
    exact k1 st2 c2 B' H' ((x2.trans s5.x hx2.has).trans s.x hx5.has) (hx5.step s) (by omega) I2
  | cons q r =>
    have eb' : b = true := by
      have hne : ((q :: r).reverse.map pairD) ≠ [] := by simp
      rw [eb]
      cases e : ((q :: r).reverse.map pairD) with
      | nil => exact absurd e hne
      | cons x y => rfl
    subst eb'
    rw [if_pos rfl]
    obtain ⟨d, hd, hcase⟩ := run_step (one := decide (g = "one")) ok h4 hh I2
    have hmv : ((movesM rows (decide (g = "one")) st2).filter fun q => decide (q.1 = h)) = [(h, d)] := by
      rw [moves_own (by rw [hlen]; exact hh), hd]
      rfl
    have hmem : (h, d) ∈ movesM rows (decide (g = "one")) st2 := by
      have : (h, d) ∈ (movesM rows (decide (g = "one")) st2).filter fun q => decide (q.1 = h) := by rw [hmv]; exact List.mem_singleton.mpr rfl
      exact (List.mem_filter.mp this).1
    have hml : (movesM rows (decide (g = "one")) st2).length ≤ 100000 := by
      have := flat_len (fun k => (handM rows (decide (g = "one")) (plyOf st2) k).map fun d => (k, d)) 5 (fun k => by rw [List.length_map]; exact (hand_ok ok).1) st2.people.length
      unfold movesM
      omega
    refine cb_setLcL 2 3 (as := movesM rows (decide (g = "one")) st2) (φ := moveD) (F := fun q => decide (q.1 = h)) (G := moveD) s4.lo (ev_meth0 (met_bmoves T) hr (ev_name (i := 0) rfl) hE1 rfl fun B5 l5 => ⟨p, g, rows, n, st2, rfl, hAt.le l5, okp, hlen, rfl⟩) (fun a ha v B5 lb hp s5 H5 C cl fp => ei_one (et_eqs (ev_sc (d := .int (a.1 : Int)) (ed_ixT (ds := [.int (a.1 : Int), .str a.2]) (ev_d (ev_name (i := 3) rfl) hp) ev_int rfl) rfl) (ev_name (i := 1) rfl) rfl (by simp; omega))) (fun a ha hF v B5 lb hp s5 H5 C cl fp => ev_d (ev_name (i := 3) rfl) hp) hml fun lv B5 H5 t5 hlv => ?_
    rw [hmv] at hlv
    have hlv' : Dp K B5 lv (.list [moveD (h, d)]) := by
      obtain ⟨a, xs, e1, g1, g2⟩ := hlv
      rw [e1]
      exact .lst (.of g1) g2
    have s5 := s4.trans t5
    refine ws_ifN (et_nes (ev_lenL T.f_len (ev_d (ev_name (i := 2) rfl) hlv')) ev_int rfl rfl) t5.lo fun H6 t6 => ?_
    have s6 := s5.trans (Stp.keep s5.lo t6)
    have hm60 : st2.made.length < 60 := by have := I2.mlen ok; omega
    have callB : ∀ (r0 : Res), StepOk rows (decide (g = "one")) st2 (h, d) r0 → ∀ (v7 : V) (B7 H7 : Hp), Stp B5 H6 B7 H7 → (Pd.d K (moveD (h, d))).p v7 B7 → (∃ dx fs, H7 p = some (.ins (cBench K) dx fs)) ∧ spCallB K [.ref p, v7] H7 (fun v H' => ∃ B7, StpX [p, dl, sl] B H B7 H' ∧ BenchX K B7 H' p dl sl g rows n r0 (c2 + 1)) E0 := fun r0 hst v7 B7 H7 t7 hv7 => by
      obtain ⟨B8, s8, hx8, hdp⟩ := hk3 B7 H7 (s6.trans t7)
      exact ⟨hx8.slot, p, v7, B8, dl, sl, g, rows, n, st2, c2, (h, d), r0, rfl, hx8, by omega, hdp _ _ rfl hv7, okp, hlen, hmem, hm60, hst, fun v9 B9 H9 x9 hx9 => ⟨B9, (x2.trans s8.x hx2.has).trans x9 hx8.has, hx9⟩⟩
    rcases hcase with ⟨R', st', hst, I', hlt⟩ | ⟨hst, hq2, hq3, hq4⟩
    · refine ws_exprW (we_own1 T.u_Bench_call F2 hb2 hr s6.lo (ev_name (i := 0) rfl) (ed_ixL (ev_d (ev_name (i := 2) rfl) hlv') ev_int rfl) (callB _ hst)) fun v9 H9 ⟨B9, x9, hx9⟩ => ?_
      obtain ⟨B10, l10, l10', hE', hk10⟩ := hx9.known
      have hAt' : BenchAt K B10 p g rows n (.st st') := by
        obtain ⟨dx, sa, ms, ini, v, hE⟩ := hE'
        exact ⟨dl, sl, _, dx, sa, ms, ini, v, hE⟩
      obtain ⟨dx', sa', ms', ini', v', hF1, _⟩ := hE'
      refine ws_ifN (et_isnt (v := .non) (ev_sc (d := .none) (ev_prop (R := Pd.d K (faultD (.st st'))) (prp_fault T) hr (ev_name (i := 0) rfl) hF1 fun B5 l5 => ⟨p, g, rows, n, .st st', rfl, hAt'.le l5, rfl⟩) rfl) rfl) l10' fun H11 t11 => ws_nil ?_
      obtain ⟨B12, s12, hx12, _⟩ := hk10 B10 H11 (Stp.keep l10' t11)
      exact ⟨_, by rw [em]; exact hlt, B12, st', R', c2 + 1, _, _, x9.trans s12.x hx9.has, hx12, I', rfl, by omega, rfl⟩
    · refine ws_exprW (we_own1 T.u_Bench_call F2 hb2 hr s6.lo (ev_name (i := 0) rfl) (ed_ixL (ev_d (ev_name (i := 2) rfl) hlv') ev_int rfl) (callB _ hst)) fun v9 H9 ⟨B9, x9, hx9⟩ => ?_
      obtain ⟨B10, l10, l10', hE', hk10⟩ := hx9.known
      have hAt' : BenchAt K B10 p g rows n (.bad h q.1) := by
        obtain ⟨dx, sa, ms, ini, v, hE⟩ := hE'
        exact ⟨dl, sl, _, dx, sa, ms, ini, v, hE⟩
      obtain ⟨dx', sa', ms', ini', v', hF1, _⟩ := hE'
      refine ws_ifY (et_isntT (ds := [.str "itself", .int (h : Nat), .str q.1]) (ev_prop (R := Pd.d K (faultD (.bad h q.1))) (prp_fault T) hr (ev_name (i := 0) rfl) hF1 fun B5 l5 => ⟨p, g, rows, n, .bad h q.1, rfl, hAt'.le l5, rfl⟩)) l10' fun H11 t11 => ?_
      obtain ⟨B12, s12, hx12, _⟩ := hk10 B10 H11 (Stp.keep l10' t11)
      refine ws_ret (P := Pd.v (.str "fault")) ev_str hx12.le fun v' B' H' s p => ?_
      have ev : v' = .str "fault" := p
      subst ev
      exact k2 q r st2 (c2 + 1) B' H' ((x9.trans s12.x hx9.has).trans s.x hx12.has) (hx12.step s) (by omega) I2 hq3 hq4
end
end K57

set_option Elab.async false
set_option linter.all false
set_option maxRecDepth 100000
set_option maxHeartbeats 4000000
/-! XB: range loops, sums of lists, dict(pairs); _law_reach. -/
namespace K57
open PySem PySem.Spec PyProof.Rows L2
section
variable {P : Program} {w : World} {K : PySem.W.Frag} {mg : Str → Option Value} {base : Heap} {N : List Str} {qual : Str} {sc scope : Scope} {f : Addr} {cdv : Value} {A0 : Around} {outer : List Env} {s0 : Shared} {H0 : Hp} {E0 : XK} {e0 : Expr} {σ : L2.St} {B H : Hp} {pos px pf pc : Pos} {D : Ends} {rest body : List Stmt} {x : Str}
/-- for x in range(n) -/
theorem cb_forR (j : Nat) {n : Nat} (h : Ev (Cb P w K mg base N qual sc f cdv A0 outer s0 H0 E0) e0 σ B (.int (n : Nat))) (l : Le B H) (hm : mg "range" = none) (hn : n ≤ 1000) (Pv : Hp → Nat → L2.St → Hp → Prop)
    (h0 : ∀ B' H', Stp B H B' H' → Pv B' 0 σ H')
    (hs : ∀ B' i σ' H', Le B B' → i < n → Pv B' i σ' H' → WSs (Cb P w K mg base N qual sc f cdv A0 outer s0 H0 E0) body { D with nx := Pv B' (i + 1), ct := Pv B' (i + 1), bk := WSs (Cb P w K mg base N qual sc f cdv A0 outer s0 H0 E0) rest D } (σ'.set j (some (.int (i : Nat)))) H')
    (hd : ∀ B' σ' H', Le B B' → Pv B' n σ' H' → WSs (Cb P w K mg base N qual sc f cdv A0 outer s0 H0 E0) rest D σ' H') (hg : Gl (Cb P w K mg base N qual sc f cdv A0 outer s0 H0 E0) "range" := by rfl) (hst : starEach [e0] (Cb P w K mg base N qual sc f cdv A0 outer s0 H0 E0).env = [(false, eval e0 (Cb P w K mg base N qual sc f cdv A0 outer s0 H0 E0).env)] := by rfl) (hst2 : starEach [e0] (Cb P w K mg base N qual sc f cdv A0 outer s0 H0 E0).env = (false, eval e0 (Cb P w K mg base N qual sc f cdv A0 outer s0 H0 E0).env) :: starEach [] (Cb P w K mg base N qual sc f cdv A0 outer s0 H0 E0).env := by rfl)
    (hf : ∀ z, foldedSetIterable (.Call (.Name "range" pf) [e0] [] pc) (Cb P w K mg base N qual sc f cdv A0 outer s0 H0 E0).env z = pure z := by intro _; rfl) (nd : decide N.Nodup = true := by rfl) (hi : N[j]? = some x := by rfl)
    (hx : Loc sc x := by first | exact Or.inl rfl | exact Or.inr rfl) (hfx : (Cb P w K mg base N qual sc f cdv A0 outer s0 H0 E0).fn x = true ∨ sc.names.lookup x = some .local := by first | exact .inl rfl | exact .inr rfl) :
    WSs (Cb P w K mg base N qual sc f cdv A0 outer s0 H0 E0) (.For (.Name x px) (.Call (.Name "range" pf) [e0] [] pc) body [] pos :: rest) D σ H :=
  ws_cons (ps_for PassesOwn.never rfl (pi_range1 hg hm (pa_cons pe_w pa_nil hst2) hst) (cb_gname j nd hi hx hfx) pss_w hf) ((h H l).mono fun v H2 ⟨B1, s, (p : v = .int (n : Nat))⟩ => ⟨(n : Nat), by rw [p], by omega, by omega, by
    rw [Int.toNat_natCast]
    exact for_range (Pv B1) (h0 B1 H2 s) (fun i σ' H' hi2 pv => by
      rw [Int.zero_add]
      exact hs B1 i σ' H' s.up hi2 pv) fun σ' H' pv => hd B1 σ' H' s.up pv⟩)
end
/-- the texts of a list's lists -/
theorem dpa_lists {K : PySem.W.Frag} {H : Hp} {nd : Str → List Str} : ∀ {F : List Str} {xs : List V}, DpAll K H xs (F.map fun n => .list ((nd n).map .str)) → ∃ as : List Addr, xs = as.map V.ref ∧ as.length = F.length ∧ ∀ (i : Nat) (p : Addr) (L : List V), as[i]? = some p → (F.map fun n => (nd n).map V.str)[i]? = some L → SqL K H p L
  | [], _, h => by cases h; exact ⟨[], rfl, rfl, fun i p L e => by cases e⟩
  | n :: F, _, h => by
    cases h with
    | cons h1 h2 =>
      obtain ⟨a, xs, e1, g1, g2⟩ := dp_list h1
      obtain ⟨as, k1, k2, k3⟩ := dpa_lists h2
      subst e1
      rw [dpa_strs_inv g2] at g1
      refine ⟨a :: as, by rw [k1]; rfl, congrArg Nat.succ k2, fun i p L e e2 => ?_⟩
      cases i with
      | zero => cases e; cases e2; exact g1
      | succ i => exact k3 i p L e e2
theorem dpa_pairs {K : PySem.W.Frag} {H : Hp} : ∀ {F : List Str} {xs : List V}, DpAll K H xs (F.map fun n => .tuple [.str n, .bool true]) → ∃ as : List Addr, xs = as.map V.ref ∧ Paired (fun p kv => SqT K H p [kV kv.1, kv.2]) as (F.map fun n => ((.inr n, .bl true) : Key × V))
  | [], _, h => by cases h; exact ⟨[], rfl, .nil⟩
  | n :: F, _, h => by
    cases h with
    | cons h1 h2 =>
      obtain ⟨a, xs, e1, g1, g2⟩ := dp_tuple h1
      obtain ⟨as, k1, k2⟩ := dpa_pairs h2
      subst e1
      cases g2 with
      | cons q1 g2 => cases g2 with
        | cons q2 g2 =>
          cases g2
          rw [dp_str q1, dp_bl q2] at g1
          exact ⟨a :: as, by rw [k1]; rfl, .cons g1 k2⟩
theorem paired_le {K : PySem.W.Frag} {B H : Hp} (l : Le B H) {ps : List Addr} {kvs : List (Key × V)} (h : Paired (fun p (kv : Key × V) => SqT K B p [kV kv.1, kv.2]) ps kvs) : Paired (fun p (kv : Key × V) => SqT K H p [kV kv.1, kv.2]) ps kvs := by
  induction h with
  | nil => exact .nil
  | cons x y ih => exact .cons (l.sqT x) ih
def dedS (l : List Str) : List Str := l.foldl (fun acc x => if x ∈ acc then acc else acc ++ [x]) []
theorem keys_put {kvs : List (Key × V)} {ks : List Str} {z : Str} {v : V} (h : kvs.map (·.1) = ks.map Sum.inr) : (putK kvs (.inr z) v).map (·.1) = (if z ∈ ks then ks else ks ++ [z]).map Sum.inr := by
  have hany : (kvs.any fun kv => decide (kv.1 = (.inr z : Key))) = decide (z ∈ ks) := by
    have e : (kvs.any fun kv => decide (kv.1 = (.inr z : Key))) = (kvs.map (·.1)).any fun k => decide (k = (.inr z : Key)) := by rw [List.any_map]; rfl
    rw [e, h, List.any_map]
    by_cases q : z ∈ ks
    · rw [decide_eq_true q, List.any_eq_true]
      exact ⟨z, q, by simp⟩
    · rw [decide_eq_false q, List.any_eq_false]
      intro x hx
      simp only [Function.comp, decide_eq_true_eq]
      intro e
      exact q (Sum.inr.inj e ▸ hx)
  unfold putK
  rw [hany]
  by_cases q : z ∈ ks
  · rw [decide_eq_true q, if_pos rfl, if_pos q, ← h, List.map_map]
    apply List.map_congr_left
    intro kv _
    simp only [Function.comp]
    split <;> rfl
  · rw [decide_eq_false q, if_neg (by decide), if_neg q, List.map_append, List.map_append, h]
    rfl
theorem keys_merge : ∀ {F : List Str} {kvs : List (Key × V)} {ks : List Str}, kvs.map (·.1) = ks.map Sum.inr → (mergeK kvs (F.map fun n => ((.inr n, .bl true) : Key × V))).map (·.1) = (F.foldl (fun acc x => if x ∈ acc then acc else acc ++ [x]) ks).map Sum.inr
  | [], _, _, h => h
  | n :: F, kvs, ks, h => by
    rw [List.map_cons, List.foldl_cons]
    show (mergeK (putK kvs (.inr n) (.bl true)) _).map (·.1) = _
    exact keys_merge (keys_put h)
theorem mem_ded {x : Str} : ∀ {F ks : List Str}, x ∈ F.foldl (fun acc x => if x ∈ acc then acc else acc ++ [x]) ks ↔ x ∈ ks ∨ x ∈ F
  | [], ks => by simp
  | n :: F, ks => by
    rw [List.foldl_cons, mem_ded]
    split
    · rename_i h
      constructor
      · rintro (q | q)
        · exact .inl q
        · exact .inr (List.mem_cons_of_mem _ q)
      · rintro (q | q)
        · exact .inl q
        · rcases List.mem_cons.mp q with e | e
          · exact .inl (e ▸ h)
          · exact .inr e
    · simp only [List.mem_append, List.mem_cons, List.not_mem_nil, or_false]
      exact or_assoc
theorem nodup_ded : ∀ {F ks : List Str}, ks.Nodup → (F.foldl (fun acc x => if x ∈ acc then acc else acc ++ [x]) ks).Nodup
  | [], ks, h => h
  | n :: F, ks, h => by
    rw [List.foldl_cons]
    apply nodup_ded
    split
    · exact h
    · rename_i q
      rw [List.nodup_append]
      refine ⟨h, List.nodup_cons.mpr ⟨(fun h => by cases h), List.nodup_nil⟩, fun a ha b hb => ?_⟩
      rw [List.mem_singleton.mp hb]
      exact fun e => q (e ▸ ha)
section
variable {X : Cx} {e1 e2 : Expr} {σ : L2.St} {H : Hp} {pos : Pos}
/-- sum(lists, []) -/
theorem el_sumL {p : Pos} {F : List Str} {nd : Str → List Str} (hc : X.calm = true) (hm : X.mg "sum" = none) (h1 : EvD X e1 σ H (.list (F.map fun n => .list ((nd n).map .str)))) (h2 : EvL X e2 σ H []) (hF : F ≠ []) (hz : (F.map nd).flatten.length ≤ 100000)
    (hg : Gl X "sum" := by rfl) (he : starEach [e1, e2] X.env = (false, eval e1 X.env) :: starEach [e2] X.env := by rfl) (he2 : starEach [e2] X.env = (false, eval e2 X.env) :: starEach [] X.env := by rfl) (hpl : (backTo pos (starEach [e2] X.env)).any (·.1) = false := by rfl) :
    EvL X (.Call (.Name "sum" p) [e1, e2] [] pos) σ H ((F.map nd).flatten.map .str) :=
  ev_cb (call_sumL hc) hm rfl (ea_cons h1 (ea_1 h2 he2) he) (fun vs B H' lb l hs Q q => by
    obtain ⟨v1, v2, rfl, p1, p2⟩ := holds2 hs
    obtain ⟨a, xs, rfl, g1, g2⟩ := dp_list p1
    obtain ⟨b, ys, rfl, k1, k2⟩ := p2
    cases k2
    obtain ⟨as, rfl, e2, e3⟩ := dpa_lists g2
    have efl : (F.map fun n => (nd n).map V.str).flatten = (F.map nd).flatten.map V.str := by
      rw [List.map_flatten, List.map_map]
      rfl
    refine ⟨a, b, as, F.map fun n => (nd n).map V.str, rfl, l.sqL g1, l.lst k1, by rw [e2, List.length_map], fun i p L x y => l.sqL (e3 i p L x y), ?_, by rw [efl, List.length_map]; exact small_line hz, fun p hp => ?_⟩
    · rw [e2]
      exact List.length_pos_iff.mpr hF
    · rw [efl]
      exact q _ _ _ (.new l hp) ⟨p, _, rfl, upd_same, dpa_strs _⟩) hg (by decide) (by decide) he hpl
/-- dict([(z, True), ..]) -/
theorem ev_dictT {p : Pos} {F : List Str} (hc : X.calm = true) (hm : X.mg "dict" = none) (h1 : EvD X e1 σ H (.list (F.map fun n => .tuple [.str n, .bool true]))) 
    (hg : Gl X "dict" := by rfl) (he : starEach [e1] X.env = (false, eval e1 X.env) :: starEach [] X.env := by rfl) :
    EvP X (.Call (.Name "dict" p) [e1] [] pos) σ H (Pd.dv (mergeK [] (F.map fun n => ((.inr n, .bl true) : Key × V)))) :=
  ev_ct (call_dictP hc) hm rfl (ea_1 h1 he) (fun vs B H' lb l hs Q q => by
    obtain ⟨v1, rfl, p1⟩ := holds1 hs
    obtain ⟨a, xs, rfl, g1, g2⟩ := dp_list p1
    obtain ⟨as, rfl, e3⟩ := dpa_pairs g2
    exact ⟨a, as, _, rfl, l.sqL g1, paired_le l e3, fun p hp => q _ _ _ (.new l hp) ⟨p, rfl, .inl upd_same⟩⟩) hg (by decide) (by decide) he rfl
end
def reachL (rows : List (Str × List Str)) (name : Str) : List Str := dedS (reachF (lookN rows) [name] rows.length)
theorem mem_reachL {rows : List (Str × List Str)} {name x : Str} (ok : OkNet rows) (hn : name ∈ keysN rows) : x ∈ reachL rows name ↔ Rch (lookN rows) name x := by
  have hl : rows.length = (keysN rows).length := (List.length_map ..).symm
  unfold reachL dedS
  rw [mem_ded, hl, reachF_iff (fun k hk m hm => (ok.need k hk).2 m hm) hn]
  simp
section
variable {P : Program} {w : World} {K : PySem.W.Frag} {mg : Str → Option Value} {base : Heap} (T : Tx P K mg)
include T
def A_reach (K : PySem.W.Frag) : List V → Hp → Pd → Prop := fun vs B R => ∃ q rows name, vs = [.ref q, .str name] ∧ KvAt K B q (rowsD rows) ∧ OkNet rows ∧ name ∈ keysN rows ∧ R = Pd.d K (.list ((sortS (reachL rows name)).map .str))
theorem cal_law_reach : C8.Cal P w K mg base 3 "_law_reach" (pureSp (A_reach K)) [] :=
  cal_pure T.d__law_reach T.g__law_reach ⟨rfl, rfl, rfl, by decide +kernel, rfl, by decide +kernel, by decide +kernel⟩ (fun _ _ _ _ _ _ us hl => match us, hl with | [_, _], _ => rfl) (N := ["needs", "name", "found", "turn", "more", "other", "one"]) (ps := ["needs", "name"]) (fun vs B R ⟨_, _, _, e, _⟩ => by rw [e]; rfl)
    fun cdv A0 outer s H0 E vs B H R D hr l ⟨q, rows, name, e, kv, ok, hn, eR⟩ q1 q2 => by
      subst e
      subst eR
      have kn : ∀ k ∈ keysN rows, ∀ m ∈ lookN rows k, m ∈ keysN rows := fun k hk m hm => (ok.need k hk).2 m hm
      have h5 := ok.hi
      have hlen : ∀ k, k ≤ 5 → (reachF (lookN rows) [name] k).length ≤ 7776 := fun k hk => Nat.le_trans (reachF_len kn hn (fun u hu => look_len ok hu) k) (by
        have := Nat.pow_le_pow_right (n := 6) (by decide) hk
        exact this)
      have hmem : ∀ {k x}, x ∈ reachF (lookN rows) [name] k → x ∈ keysN rows := fun h => reachF_keys kn hn h
      refine cb_set 2 (el_lst (ds := [.str name]) (ea_1 (ev_d (ev_name (i := 1) rfl) (.str name))) (by show 1 ≤ 100000; decide)) l fun fv B1 H1 s1 hf => ?_
      obtain ⟨kvs, hd, hkv⟩ := kv
      refine cb_forR 3 (n := rows.length) (ev_eq (ev_lenD T.f_len (ev_name (i := 0) rfl) (s1.up.dk hd)) (by rw [hkv.len]; unfold rowsD; rw [List.length_map])) s1.lo T.f_range (by omega) (fun B' i σ' H' => ∃ B2 fv, Stp B H B2 H' ∧ (Pd.dl K ((reachF (lookN rows) [name] i).map .str)).p fv B2 ∧ ∃ c3 c4 c5 c6, σ' = [some (.ref q), some (.str name), some fv, c3, c4, c5, c6]) (fun B' H' t => ⟨B', fv, s1.trans t, (Pd.dl K _).st t.up hf, none, none, none, none, rfl⟩) (fun B' i σ' H' lB hi ⟨B2, fv, s2, hf, c3, c4, c5, c6, eσ⟩ => ?_) (fun B' σ' H' lB ⟨B2, fv, s2, hf, c3, c4, c5, c6, eσ⟩ => ?_)
      · subst eσ
        have kv2 : KvAt K B2 q (rowsD rows) := ⟨kvs, s2.up.dk hd, hkv.le s2.up⟩
        have hfd : Dp K B2 fv (.list ((reachF (lookN rows) [name] i).map .str)) := by
          obtain ⟨a, xs, e1, g1, g2⟩ := hf
          rw [e1]
          exact .lst (.of g1) g2
        have hl7 := hlen i (by omega)
        have hne : reachF (lookN rows) [name] i ≠ [] := List.ne_nil_of_mem reachF_n0
        have hml : ((reachF (lookN rows) [name] i).map (lookN rows)).flatten.length ≤ 50000 := by
          have := flatten_len (L := (reachF (lookN rows) [name] i).map (lookN rows)) (c := 5) fun l hl => by
            obtain ⟨u, hu, rfl⟩ := List.mem_map.mp hl
            exact look_len ok (hmem hu)
          rw [List.length_map] at this
          omega
        refine cb_set 4 (P1 := Pd.dl K (((reachF (lookN rows) [name] i).map (lookN rows)).flatten.map .str)) (el_sumL rfl T.f_sum (ed_eq (EvL.toD (cb_lcL 5 (as := reachF (lookN rows) [name] i) (φ := .str) (F := fun _ => true) (G := fun n => .list ((lookN rows n).map .str)) (ev_d (ev_name (i := 2) rfl) hfd) (fun c hc v B3 lb hp s3 H3 C cl fp => ei_nil) (fun c hc hF v B3 lb hp s3 H3 C cl fp => ?_) (by omega))) (by rw [List.filter_eq_self.mpr (fun _ _ => rfl)])) (el_lst (ds := []) ea_nil (by decide)) hne (by omega)) s2.lo fun mv B3 H3 t3 hmv => ?_
        · have ev : v = .str c := dp_str hp
          subst ev
          exact EvL.toD (el_ofT T.f_list rfl rfl (ed_get (ev_name (i := 0) rfl) (kv2.le lb) (ev_name (i := 5) rfl) (rowsD_lookup (hmem hc)) (ru1 hr)))
        · have hmd : Dp K B3 mv (.list (((reachF (lookN rows) [name] i).map (lookN rows)).flatten.map .str)) := by
            obtain ⟨a, xs, e1, g1, g2⟩ := hmv
            rw [e1]
            exact .lst (.of g1) g2
          refine cb_set 2 (P1 := Pd.dl K ((reachF (lookN rows) [name] (i + 1)).map .str)) (EvP.imp (el_cat (ds1 := (reachF (lookN rows) [name] i).map .str) (EvP.imp (ev_name (i := 2) rfl) fun v H' lv ev => by
            have ev' : v = fv := ev
            rw [ev']
            exact (Pd.dl K _).st (t3.up.trans lv) hf) (cb_lcL 5 (as := ((reachF (lookN rows) [name] i).map (lookN rows)).flatten) (φ := .str) (F := fun c => !decide (c ∈ reachF (lookN rows) [name] i)) (G := .str) (ev_d (ev_name (i := 4) rfl) hmd) (fun c hc v B4 lb hp s4 H4 C cl fp => ei_one ?_) (fun c hc hF v B4 lb hp s4 H4 C cl fp => ev_d (ev_name (i := 5) rfl) hp) (by omega)) ?_) (fun v H' _ h => ?_)) t3.lo fun fv2 B4 H4 t4 hf4 => ws_nil ⟨B4, fv2, (s2.trans t3).trans t4, hf4, _, _, _, _, rfl⟩
          · have ev : v = .str c := dp_str hp
            subst ev
            exact et_ninL (ev_name (i := 5) rfl) (ev_d (ev_name (i := 2) rfl) ((t3.up.trans lb).dp hfd)) rfl
          · rw [List.length_map, List.length_map]
            have := List.length_filter_le (fun c => !decide (c ∈ reachF (lookN rows) [name] i)) ((reachF (lookN rows) [name] i).map (lookN rows)).flatten
            omega
          · rw [← List.map_append] at h
            exact h
      · subst eσ
        have hfd : Dp K B2 fv (.list ((reachF (lookN rows) [name] rows.length).map .str)) := by
          obtain ⟨a, xs, e1, g1, g2⟩ := hf
          rw [e1]
          exact .lst (.of g1) g2
        have hl7 := hlen rows.length (by omega)
        refine ws_ret (P := Pd.d K (.list ((sortS (reachL rows name)).map .str))) (ev_call (cal_law_sorted T) hr (ea_1 (ev_dictT (F := reachF (lookN rows) [name] rows.length) rfl T.f_dict (ed_eq (EvL.toD (cb_lcL 6 (as := reachF (lookN rows) [name] rows.length) (φ := .str) (F := fun _ => true) (G := fun n => .tuple [.str n, .bool true]) (ev_d (ev_name (i := 2) rfl) hfd) (fun c hc v B3 lb hp s3 H3 C cl fp => ei_nil) (fun c hc hF v B3 lb hp s3 H3 C cl fp => ?_) (by omega))) (by rw [List.filter_eq_self.mpr (fun _ _ => rfl)])))) fun vs B3 l3 h => ?_) s2.lo fun v' B' H' s p => q1 v' B' H' (s2.trans s) p
        · have ev : v = .str c := dp_str hp
          subst ev
          exact ed_tup (ds := [.str c, .bool true]) (ea_cons (ev_d (ev_name (i := 6) rfl) (.str c)) (ea_1 (ev_d ev_bool (.bl true)))) (by show 2 ≤ 100000; decide)
        · obtain ⟨w1, rfl, d, e1, e2⟩ := holds1 h
          refine ⟨w1, reachL rows name, rfl, .inr ⟨d, _, e1, e2, keys_merge (ks := []) rfl⟩, ?_, rfl⟩
          have := sub_lenG (a := reachL rows name) (b := keysN rows) (nodup_ded List.nodup_nil) fun m hm => by
            rcases mem_ded.mp hm with q | q
            · cases q
            · exact hmem q
          rw [List.length_map] at this
          omega
end
end K57

set_option Elab.async false
set_option linter.all false
set_option maxRecDepth 100000
set_option maxHeartbeats 4000000
/-! XC: helpers of _law_right. -/
namespace K57
open PySem PySem.Spec PyProof.Rows L2
section
variable {S T : List Addr} {B H B1 H1 B2 H2 B' H' : Hp} {D : Addr} {o : HO}
theorem StpX.add (a : StpX S B H B1 H1) (b : StpX T B1 H1 B2 H2) (hT : ∀ x ∈ T, H x = none) (hS : ∀ x ∈ S, H1 x ≠ none) : StpX S B H B2 H2 :=
  ⟨fun x o hx h => b.same x o (fun q => by rw [hT x q] at h; cases h) (a.same x o hx h), a.up.trans b.up, b.lo, fun x hb hh => b.non x (a.non x hb hh) (by
    by_cases q : x ∈ S
    · exact hS x q
    · cases e : H x with
      | none => exact absurd e hh
      | some u => rw [a.same x u q e]; simp)⟩
theorem StpX.ownD (t : StpX S B H B' H') (hD : H D = none) (h : H' D = some o) (n : B' D = none) : StpX S B H (upd B' D o) H' :=
  ⟨t.same, t.up.trans (Le.new n), le_put t.lo h, fun y hb hh => by
    rw [upd_ne (fun e => hh (by rw [e]; exact hD))]
    exact t.non y hb hh⟩
theorem StpX.kept {x : Addr} {u : HO} (t : StpX S B H B' H') (hx : x ∉ S) (h : H x = some u) (n : B x = none) : H' x = some u ∧ B' x = none := ⟨t.same x u hx h, t.non x n (by rw [h]; simp)⟩
theorem PoolX.ownD {l : Addr} (h : PoolX B H l) (hn : D ≠ l) (e : H D = some o) : PoolX (upd B D o) H l := by
  obtain ⟨a, b, h1, h2, h3, h4, h5, h6⟩ := h
  exact ⟨a, b, h1, h2, h3, h4, by rw [upd_ne hn.symm]; exact h5, le_put h6 e⟩
theorem BenchX.ext {K : PySem.W.Frag} {p dl sl : Addr} {g : Str} {rows : List (Str × List Str)} {n c : Nat} {r : Res} (h : BenchX K B H p dl sl g rows n r c) (nD : B D = none) (e : H D = some o) (h1 : D ≠ p) (h2 : D ≠ dl) (h3 : D ≠ sl) : BenchX K (upd B D o) H p dl sl g rows n r c := by
  obtain ⟨dx, sa, ms, ini, v, g1, g2, g3, g4, g5, g6, g7, g8, g9, g10, g11, g12⟩ := h
  exact ⟨dx, sa, ms, ini, v, g1, g2, g3, by rw [upd_ne h1.symm]; exact g4, by rw [upd_ne h2.symm]; exact g5, by rw [upd_ne h3.symm]; exact g6, g7, g8.le (Le.new nD), (Le.new nD).dp g9, g10, g11, le_put g12 e⟩
end
section
variable {X : Cx} {e a b c e1 e2 : Expr} {σ : L2.St} {B H : Hp} {pos p : Pos} {Q : VK} {D : Ends} {rest body orelse : List Stmt}
/-- if c: body, c with effects; J joins -/
theorem ws_ifJ {R : Bool → Hp → Prop} (J : Hp → Prop) (h : WT X c σ H R) (h1 : ∀ H', R true H' → WSs X body { D with nx := fun σ' H' => σ' = σ ∧ J H' } σ H') (h2 : ∀ H', R false H' → J H') (k : ∀ H', J H' → WSs X rest D σ H') : WSs X (.If c body [] pos :: rest) D σ H :=
  ws_cons (ps_if pt_w pss_w pss_w) (h.mono fun b' H' hb => by
    cases b' with
    | true =>
      rw [if_pos rfl]
      exact WSs.mono (h1 H' hb) (fun σ' H2 ⟨e, j⟩ => by rw [e]; exact k H2 j) (fun _ _ z => z) (fun _ _ z => z) (fun _ _ z => z)
    | false =>
      rw [if_neg Bool.false_ne_true]
      exact ws_nil (k H' (h2 H' hb)))
/-- if c: body, c with effects and not so -/
theorem ws_ifNW {J : Hp → Prop} (h : WT X c σ H (fun b H' => b = false ∧ J H')) (k : ∀ H', J H' → WSs X rest D σ H') : WSs X (.If c body [] pos :: rest) D σ H :=
  ws_cons (ps_if pt_w pss_w pss_w) (h.mono fun b' H' ⟨hb, j⟩ => by
    subst hb
    rw [if_neg Bool.false_ne_true]
    exact ws_nil (k H' j))
theorem wt_or2 {Q : Bool → Hp → Prop} (h : WT X a σ H fun k H1 => if k = true then Q true H1 else WT X b σ H1 Q) : WT X (.BoolOp .Or [a, b] pos) σ H Q :=
  ⟨fun pins s I => (WW.of (pw_or pt_w pw_w) (h.mono fun k H1 hk => by
    cases k with
    | true =>
      rw [if_pos rfl] at hk
      rw [if_pos rfl]
      exact hk
    | false =>
      rw [if_neg Bool.false_ne_true] at hk
      rw [if_neg Bool.false_ne_true]
      exact WW.of (pw_or1 pt_w) hk)).run _ pins s I⟩
theorem wt_neS {z : Str} {j p2} {R : Str → Hp → Prop} (h : WE X e σ H (fun v H' => ∃ s, v = .str s ∧ R s H')) (hs : ∀ s H' H2, R s H' → Same H' H2 → R s H2) : WT X (.Compare e [.NotEq] [.Constant (.str z) j p2] pos) σ H (fun b H' => ∃ s, b = !decide (s = z) ∧ R s H') :=
  .of (pt_cmpR op_ne pe_w pe_w (nomark _)) (h.mono fun v H1 ⟨s, e1, h1⟩ => (ev_str (X := X) (σ := σ) (H := H1) H1 (Le.refl _)).mono fun u H2 ⟨B2, s2, (e2 : u = .str z)⟩ => by
    subst e1 e2
    exact ⟨rfl, _, rfl, s, by simp, hs _ _ _ h1 s2.same⟩)
/-- C(..).m() -/
theorem ev_meth0P {A : List V → Hp → Pd → Prop} {k j : Nat} {C : Addr} {m : Str} {R P0 : Pd} {apos : Pos} {o : Expr} {pl : Sem Bool} (c : C8.Met X.prog X.w X.K X.mg X.base k C m (pureSp A) []) (hr : Room j X.A)
    (ho : EvP X o σ H P0) (h : ∀ v B, Le H B → P0.p v B → ∃ q dx fs, v = .ref q ∧ B q = some (.ins C dx fs) ∧ fs.lookup m = none ∧ A [.ref q] B R) (hk : k ≤ j := by decide)
    (ht : eval (.Call (.Attribute o m apos) [] [] pos) X.env = (do
      let ov ← eval o X.env
      standAt apos.atName
      let (f, first) ← holding [ov] (getMethod ov m pl)
      callWith pos f first (backTo pos (starEach [] X.env)) (backToKw pos (keywordEach [] X.env))) := by rfl) : EvP X (.Call (.Attribute o m apos) [] [] pos) σ H R := by
  refine .of (C8.pe_mt0 (pl := pl) c hr hk pe_w ht) fun H1 l => (ho H1 l).mono fun v1 H2 ⟨B1, s1, p1⟩ => ?_
  obtain ⟨q, dx, fs, e, hq, hl, hA⟩ := h v1 B1 s1.up p1
  refine ⟨q, dx, fs, e, s1.lo.ins hq, hl, ?_⟩
  show pureSp A (v1 :: ([] ++ [])) H2 _ C8.E0
  rw [e]
  exact ⟨B1, R, s1.lo, hA, fun v B3 H4 s4 p => ⟨B3, s1.trans s4, p⟩⟩
theorem et_isntL {ds : List PyData} (ha : EvD X a σ H (.list ds)) {j} {p2 : Pos} : EvT X (.Compare a [.IsNot] [.Constant .none j p2] pos) σ H true :=
  et_cmp op_notN ha ev_none fun v1 v2 B H' _ l h1 h2 Q q => ⟨h2, by
    obtain ⟨q1, xs, e, _⟩ := dp_list h1
    rw [e]
    exact q _ (Same.refl _)⟩
/-- Bench(setting) -/
theorem we_bench {g : Str} {rows : List (Str × List Str)} {n j : Nat} {sa : Addr} (T : Tx X.prog X.K X.mg) (hr : Room j X.A) (he : Ev X e σ B (.ref sa)) (l : Le B H) (hs : SetAt X.K B sa g rows (n : Nat)) (h1 : 1 ≤ n) (h4 : n ≤ 4) (hk : 6 ≤ j := by decide) (hg : Gl X "Bench" := by rfl)
    (hst : starEach [e] X.env = (false, eval e X.env) :: starEach [] X.env := by rfl) (hpl : (backTo pos (starEach [] X.env)).any (·.1) = false := by rfl) :
    WE X (.Call (.Name "Bench" p) [e] [] pos) σ H (fun v H' => ∃ p dl sl B', v = .ref p ∧ StpX [] B H B' H' ∧ H p = none ∧ H dl = none ∧ H sl = none ∧ BenchX X.K B' H' p dl sl g rows n (.st ⟨[], none, List.replicate n []⟩) 0) := by
  refine .of (C8.pe_mk (mak_Bench (P := X.prog) (w := X.w) (base := X.base) T) hr hk hg (pa_cons pe_w pa_nil hst) (by decide) hst hpl) ((he H l).mono fun y H2 ⟨B2, s, (ey : y = .ref sa)⟩ => ?_)
  subst ey
  show ∀ x dx, _ → _ → _ → spBench X.K (.ref x :: ([.ref sa] ++ [])) _ _ _
  intro x dx hx hd hne
  have hBx : B2 x = none := le_none s.lo hx
  have hBd : B2 dx = none := le_none s.lo hd
  have hHx : H x = none := s.same.free hx
  refine ⟨x, dx, sa, B2, g, rows, n, rfl, upd_same, hBx, (s.lo.mut hBd).mut hBx, hs.le s.up, h1, h4, fun B' H' dl sl t n1 n2 hb => ⟨rfl, x, dl, sl, B', rfl, ?_, hHx, ?_, ?_, hb⟩⟩
  · have x0 : StpX [] B H B2 (upd (upd H2 dx (.own x)) x (.ins (cBench X.K) dx [])) := (s.x.newD (s.same.free hd) hBd).newD hHx hBx
    exact x0.add t (fun y hy => by rw [List.mem_singleton.mp hy]; exact hHx) (fun _ h => by cases h)
  · have q1 : dl ≠ x := fun e => by rw [e, upd_same] at n1; cases n1
    rw [upd_ne q1] at n1
    have q2 : dl ≠ dx := fun e => by rw [e, upd_same] at n1; cases n1
    rw [upd_ne q2] at n1
    exact s.same.free n1
  · have q1 : sl ≠ x := fun e => by rw [e, upd_same] at n2; cases n2
    rw [upd_ne q1] at n2
    have q2 : sl ≠ dx := fun e => by rw [e, upd_same] at n2; cases n2
    rw [upd_ne q2] at n2
    exact s.same.free n2
end
section
variable {P : Program} {w : World} {K : PySem.W.Frag} {mg : Str → Option Value} {base : Heap} {N : List Str} {qual : Str} {sc scope : Scope} {f : Addr} {cdv : Value} {A0 : Around} {outer : List Env} {s0 : Shared} {H0 : Hp} {E0 : XK} {e : Expr} {σ : L2.St} {B H : Hp} {pos px py tp : Pos} {D : Ends} {rest : List Stmt} {x y : Str} {kt : Nat}
theorem cb_set2W {Q' : VK} (i j : Nat) (h : WE (Cb P w K mg base N qual sc f cdv A0 outer s0 H0 E0) e σ H Q') (k : ∀ v H', Q' v H' → ∃ q v1 v2, v = .ref q ∧ SqT K H' q [v1, v2] ∧ WSs (Cb P w K mg base N qual sc f cdv A0 outer s0 H0 E0) rest D ((σ.set i (some v1)).set j (some v2)) H') (nd : decide N.Nodup = true := by rfl) (hi : N[i]? = some x := by rfl) (hj : N[j]? = some y := by rfl)
    (hx : Loc sc x := by first | exact Or.inl rfl | exact Or.inr rfl) (hy : Loc sc y := by first | exact Or.inl rfl | exact Or.inr rfl) (hfx : (Cb P w K mg base N qual sc f cdv A0 outer s0 H0 E0).fn x = true ∨ sc.names.lookup x = some .local := by first | exact .inl rfl | exact .inr rfl) (hfy : (Cb P w K mg base N qual sc f cdv A0 outer s0 H0 E0).fn y = true ∨ sc.names.lookup y = some .local := by first | exact .inl rfl | exact .inr rfl)
    (hs : swapsWithSole [.Tuple [.Name x px, .Name y py] kt tp] e pos.line (Cb P w K mg base N qual sc f cdv A0 outer s0 H0 E0).env = pure false := by rfl) (hw : swappedStores [.Tuple [.Name x px, .Name y py] kt tp] e (Cb P w K mg base N qual sc f cdv A0 outer s0 H0 E0).env = pure none := by rfl) : WSs (Cb P w K mg base N qual sc f cdv A0 outer s0 H0 E0) (.Assign [.Tuple [.Name x px, .Name y py] kt tp] e pos :: rest) D σ H :=
  ws_cons (ps_asg (pe_w (e := e)) (pg_tup rfl (pgs_cons (cb_gname i nd hi hx hfx) (pgs_cons (cb_gname j nd hj hy hfy) pgs_nil))) hs hw) (h.mono fun v H1 hv => by
    obtain ⟨q, v1, v2, e1, g1, kk⟩ := k v H1 hv
    exact ⟨q, _, e1, g1, rfl, _, _, rfl, _, _, rfl, rfl, kk⟩)
end
section
variable {P : Program} {w : World} {K : PySem.W.Frag} {mg : Str → Option Value} {base : Heap} {N : List Str} {qual : Str} {sc scope : Scope} {f : Addr} {cdv : Value} {A0 : Around} {outer : List Env} {s0 : Shared} {H0 : Hp} {E0 : XK} {e1 e2 : Expr} {σ : L2.St} {B H : Hp} {pos px py tp tp2 : Pos} {D : Ends} {rest : List Stmt} {x y : Str} {kt kt2 : Nat}
/-- x, y = e1, e2 -/
theorem cb_par2 (i j : Nat) (h : WE (Cb P w K mg base N qual sc f cdv A0 outer s0 H0 E0) e1 σ H fun v1 H1 => WE (Cb P w K mg base N qual sc f cdv A0 outer s0 H0 E0) e2 σ H1 fun v2 H2 => WSs (Cb P w K mg base N qual sc f cdv A0 outer s0 H0 E0) rest D ((σ.set i (some v1)).set j (some v2)) H2) (nd : decide N.Nodup = true := by rfl) (hi : N[i]? = some x := by rfl) (hj : N[j]? = some y := by rfl) (hij : i ≠ j := by decide)
    (hx : sc.names.lookup x = some .local := by rfl) (hy : sc.names.lookup y = some .local := by rfl) (g1 : starEach [e1, e2] (Cb P w K mg base N qual sc f cdv A0 outer s0 H0 E0).env = (false, eval e1 (Cb P w K mg base N qual sc f cdv A0 outer s0 H0 E0).env) :: starEach [e2] (Cb P w K mg base N qual sc f cdv A0 outer s0 H0 E0).env := by rfl) (g2 : starEach [e2] (Cb P w K mg base N qual sc f cdv A0 outer s0 H0 E0).env = (false, eval e2 (Cb P w K mg base N qual sc f cdv A0 outer s0 H0 E0).env) :: starEach [] (Cb P w K mg base N qual sc f cdv A0 outer s0 H0 E0).env := by rfl)
    (hw : swappedStores [.Tuple [.Name x px, .Name y py] kt tp] (.Tuple [e1, e2] kt2 tp2) (Cb P w K mg base N qual sc f cdv A0 outer s0 H0 E0).env = pure (some [x, y]) := by rfl) (hs : swapsWithSole [.Tuple [.Name x px, .Name y py] kt tp] (.Tuple [e1, e2] kt2 tp2) pos.line (Cb P w K mg base N qual sc f cdv A0 outer s0 H0 E0).env = pure false := by rfl) :
    WSs (Cb P w K mg base N qual sc f cdv A0 outer s0 H0 E0) (.Assign [.Tuple [.Name x px, .Name y py] kt tp] (.Tuple [e1, e2] kt2 tp2) pos :: rest) D σ H :=
  ws_cons (ps_par rfl (of_decide_eq_true nd) hi hj hij hx hy (pa_cons pe_w (pa_cons pe_w pa_nil g2) g1) hw hs) (h.mono fun v1 H1 k => k.mono fun v2 H2 k => ⟨v1, v2, rfl, k⟩)
end
/-! ### plain facts -/
theorem eqvS (l : List Str) : PyData.eqv (.list (l.map .str)) (.list (l.map .str)) = true := by
  have h : ∀ l : List Str, PyData.eqvAll (l.map .str) (l.map .str) = true := fun l => by
    induction l with
    | nil => rfl
    | cons x t ih =>
      rw [List.map_cons]
      show ((x == x) && _) = true
      rw [ih]
      simp
  exact h l
theorem look_sortN {rows : List (Str × List Str)} : lookN (sortN rows) = lookN rows := by
  funext m
  have h : ∀ l : List Str, lookN (l.map fun n => (n, lookN rows n)) m = if m ∈ l then lookN rows m else [] := fun l => by
    induction l with
    | nil => rfl
    | cons x t ih =>
      unfold lookN at ih ⊢
      rw [List.map_cons, List.lookup_cons]
      by_cases q : m = x
      · subst q
        rw [beq_self_eq_true, if_pos (List.mem_cons_self ..)]
        rfl
      · rw [beq_eq_false_iff_ne.mpr q]
        simp only [List.mem_cons, q, false_or]
        exact ih
  unfold sortN
  rw [h]
  by_cases q : m ∈ sortS (rows.map (·.1))
  · rw [if_pos q]
  · rw [if_neg q]
    rw [mem_sortS] at q
    unfold lookN
    cases e : rows.lookup m with
    | none => rfl
    | some l =>
      exfalso
      apply q
      clear q h
      induction rows with
      | nil => cases e
      | cons z t ih =>
        obtain ⟨a, b⟩ := z
        rw [List.lookup_cons] at e
        by_cases q : m = a
        · rw [q]; exact List.mem_cons_self ..
        · rw [beq_eq_false_iff_ne.mpr q] at e
          exact List.mem_cons_of_mem _ (ih e)
theorem keys_sortN {rows : List (Str × List Str)} : keysN (sortN rows) = sortS (keysN rows) := by
  unfold sortN
  show List.map _ (List.map _ _) = _
  rw [List.map_map]
  exact List.map_id _
theorem okNet_sortN {rows : List (Str × List Str)} (ok : OkNet rows) : OkNet (sortN rows) := by
  have hk := keys_sortN (rows := rows)
  have hl : (sortN rows).length = rows.length := by
    have := congrArg List.length hk
    rw [List.length_map, sortS_len, List.length_map] at this
    exact this
  refine ⟨by show (keysN (sortN rows)).Nodup; rw [hk]; exact sortS_nodup.mpr ok.nd, by rw [hl]; exact ok.lo, by rw [hl]; exact ok.hi, fun n hn => ok.nm n ?_, fun n hn => ?_⟩
  · have hn' : n ∈ keysN (sortN rows) := hn
    rw [hk, mem_sortS] at hn'
    exact hn'
  · have hn' : n ∈ keysN (sortN rows) := hn
    rw [hk, mem_sortS] at hn'
    rw [look_sortN]
    refine ⟨(ok.need n hn').1, fun m hm => ?_⟩
    show m ∈ keysN (sortN rows)
    rw [hk, mem_sortS]
    exact (ok.need n hn').2 m hm
theorem orderF_G (rows : List (Str × List Str)) : ∀ (k : Nat) (found : List Str), orderF rows k found = orderG (keysN rows) (lookN rows) k found
  | 0, _ => rfl
  | k + 1, found => by
    have e : readyG (keysN rows) (lookN rows) found = readyN rows found := rfl
    rw [orderF, orderG, e]
    cases readyN rows found with
    | nil => rfl
    | cons r t => exact orderF_G rows k (found ++ [r])
theorem orderN_G (rows : List (Str × List Str)) : orderN rows = orderG (keysN rows) (lookN rows) (keysN rows).length [] := by
  unfold orderN
  rw [orderF_G]
  show orderG _ _ rows.length _ = orderG _ _ (rows.map (·.1)).length _
  rw [List.length_map]
theorem sortS_ext {a b : List Str} (ha : a.Nodup) (hb : b.Nodup) (h : ∀ x, x ∈ a ↔ x ∈ b) : sortS a = sortS b := sortS_congr ((List.perm_ext_iff_of_nodup ha hb).mpr h)
end K57

set_option Elab.async false
set_option linter.all false
set_option maxRecDepth 100000
set_option maxHeartbeats 4000000
/-! XD: _law_right, an order given. -/
namespace K57
open PySem PySem.Spec PyProof.Rows L2
abbrev NR : List Str := ["pool", "own", "hand", "setting", "order", "asked", "bench", "there", "name", "end"]
def ifA : List Stmt := match (defBody s__law_right).getD 5 (.Pass ⟨0, 0, 0, 0⟩) with
  | .If _ b _ _ => b
  | _ => []
theorem BenchX.put {K : PySem.W.Frag} {B H : Hp} {D p dl sl : Addr} {o : HO} {g : Str} {rows : List (Str × List Str)} {n c : Nat} {r : Res} (h : BenchX K B H p dl sl g rows n r c) (nD : B D = none) (h1 : D ≠ p) (h2 : D ≠ dl) (h3 : D ≠ sl) : BenchX K B (upd H D o) p dl sl g rows n r c := by
  obtain ⟨dx, sa, ms, ini, v, g1, g2, g3, g4, g5, g6, g7, g8, g9, g10, g11, g12⟩ := h
  exact ⟨dx, sa, ms, ini, v, by rw [upd_ne h1.symm]; exact g1, by rw [upd_ne h2.symm]; exact g2, by rw [upd_ne h3.symm]; exact g3, g4, g5, g6, g7, g8, g9, g10, g11, g12.mut nD⟩
theorem BenchX.at {K : PySem.W.Frag} {B : Hp} {p dl sl : Addr} {g : Str} {rows : List (Str × List Str)} {n c : Nat} {r : Res} (h : ∃ dx sa ms ini v, BenchE K B p dl sl g rows n r c dx sa ms ini v) : BenchAt K B p g rows n r ∧ ∃ dx fs, B p = some (.ins (cBench K) dx fs) ∧ fs.lookup ("state" : Str) = none := by
  obtain ⟨dx, sa, ms, ini, v, hE⟩ := h
  exact ⟨⟨dl, sl, c, dx, sa, ms, ini, v, hE⟩, dx, _, hE.1, rfl⟩
theorem StpX.free0 {B H B' H' : Hp} {x : Addr} (t : StpX [] B H B' H') (h : H' x = none) : H x = none := by
  cases e : H x with
  | none => rfl
  | some o => rw [t.same x o (fun z => by cases z) e] at h; cases h
section
variable {P : Program} {w : World} {K : PySem.W.Frag} {mg : Str → Option Value} {base : Heap} (T : Tx P K mg)
include T
theorem right_A {f : Addr} {cdv : Value} {A0 : Around} {outer : List Env} {s0 : Shared} {H0 : Hp} {E : XK} {D : Ends} {B H : Hp} {l o sa a q : Addr} {h n : Nat} {ov v : V} {g : Str} {rows : List (Str × List Str)} {lst : List Str} {c6 c7 c8 c9 : Option V}
    (hr : Room 12 (Cb P w K mg base NR "_law_right" (defScope s__law_right) f cdv A0 outer s0 H0 E).A) (lB : Le B H) (hown : Rd B o (.dK (ownK g q v))) (kv : KvAt K B q (rowsD rows)) (ok : OkNet rows) (hset : SetAt K B sa g (sortN rows) (n : Nat)) (h1 : 1 ≤ n) (h4 : n ≤ 4) (hh : h < n) (hord : Dp K B ov (.list (lst.map .str))) (ho : orderN (sortN rows) = some lst)
    (fin : ∀ B' H', StpX [] B H B' H' → D.rt (.bl true) H') : WSs (Cb P w K mg base NR "_law_right" (defScope s__law_right) f cdv A0 outer s0 H0 E) ifA D [some (.ref l), some (.ref o), some (.int (h : Nat)), some (.ref sa), some ov, some (.ref a), c6, c7, c8, c9] H := by
  obtain ⟨fd2, F2, hb2⟩ := fn_bcall (P := P) (w := w) (base := base) T
  have okr := okNet_sortN ok
  have hG := orderN_G (sortN rows)
  rw [ho] at hG
  obtain ⟨od, hlen⟩ := orderG_some (keys := keysN (sortN rows)) (nd := lookN (sortN rows)) (found := []) (fun i n e => by cases e) hG.symm
  have hlen' : lst.length = rows.length := by
    rw [hlen, List.length_nil, Nat.zero_add, keys_sortN, sortS_len, List.length_map]
  have h5 := ok.hi
  have hkey : ∀ m ∈ lst, m ∈ keysN (sortN rows) := fun m hm => by
    obtain ⟨i, hi⟩ := List.mem_iff_getElem?.mp hm
    exact (od i m hi).1
  have hnd := od.nodup
  refine cb_par2 6 7 ((we_bench T hr (ev_name (i := 3) rfl) lB hset h1 h4).mono fun v1 H1 ⟨p, dl, sl, B1, e1, x0, fp, fdl, fsl, hb0⟩ => we_nil.mono fun v2 H2 ⟨tl, e2, htl0, e3⟩ => ?_)
  subst e1 e2 e3
  have ntl : B1 tl = none := le_none x0.lo htl0
  have hne : ∀ x ∈ [p, dl, sl], tl ≠ x := fun x hx e => hb0.has x hx (by rw [← e]; exact htl0)
  have n1 := hne p (by simp)
  have n2 := hne dl (by simp)
  have n3 := hne sl (by simp)
  have x1 := x0.step (same_new (o := .lst []) htl0)
  have hb := hb0.step (Stp.keep hb0.le (same_new (o := .lst []) htl0))
  have htl : (upd H1 tl (.lst [])) tl = some (.lst []) := upd_same
  have ftl := x0.free0 htl0
  have hS3 : tl ∉ [p, dl, sl] := by simp [n1, n2, n3]
  have hF3 : ∀ x ∈ [p, dl, sl], H x = none := fun x hx => by
    simp only [List.mem_cons, List.not_mem_nil, or_false] at hx
    rcases hx with e | e | e
    · rw [e]; exact fp
    · rw [e]; exact fdl
    · rw [e]; exact fsl
  refine cb_forL 8 (as := lst.map .str) (ev_d (ev_name (i := 4) rfl) (x1.up.dp hord)) x1.lo (fun B'' i σ' H' => ∃ B2 st c, Le B'' B2 ∧ StpX [] B H B2 H' ∧ BenchX K B2 H' p dl sl g (sortN rows) n (.st st) c ∧ c ≤ 300 * i ∧ H' tl = some (.lst ((lst.take i).map .str)) ∧ B2 tl = none ∧ st.made = sortS (lst.take i) ∧ st.people = pplH n h [] ∧ st.lock = none ∧ ∃ c8 c9, σ' = [some (.ref l), some (.ref o), some (.int (h : Nat)), some (.ref sa), some ov, some (.ref a), some (.ref p), some (.ref tl), c8, c9])
    (fun B'' H' t => ⟨B'', ⟨[], none, List.replicate n []⟩, 0, Le.refl _, x1.trans t.x (fun _ z => by cases z), hb.step t, Nat.zero_le _, t.same _ _ htl, t.non _ ntl (by rw [htl]; simp), rfl, pplH_nil.symm, rfl, c8, c9, rfl⟩) (fun B'' i σ' H' ⟨B2, st, c, l2, x2, _⟩ => l2.trans x2.lo) (fun B'' i dd vv σ' H' lB2 hi hvv ⟨B2, st, c, l2, x2, hx, hc, htl, ntl, em, ep, elk, c8, c9, eσ⟩ => ?_) (fun B'' σ' H' lB2 ⟨B2, st, c, l2, x2, hx, hc, htl, ntl, em, ep, elk, c8, c9, eσ⟩ => ?_)
  · subst eσ
    rw [List.getElem?_map] at hi
    obtain ⟨nm, hnm, rfl⟩ := Option.map_eq_some_iff.mp hi
    have ev : vv = .str nm := dp_str hvv
    subst ev
    have hil : i < lst.length := (List.getElem?_eq_some_iff.mp hnm).1
    obtain ⟨hk, hnot, hneeds⟩ := od i nm hnm
    have hsub : (lst.take i).Nodup := hnd.sublist (List.take_sublist ..)
    have hmk : ∀ m ∈ st.made, m ∈ keysN (sortN rows) := fun m hm => by
      rw [em, mem_sortS] at hm
      exact hkey m (List.mem_of_mem_take hm)
    have hmc : ∀ m ∈ st.made, ∀ x ∈ lookN (sortN rows) m, x ∈ st.made := fun m hm x hx => by
      rw [em, mem_sortS] at hm ⊢
      exact od.closed i m hm x hx
    have hnm' : nm ∉ st.made := by rw [em, mem_sortS]; exact hnot
    obtain ⟨okp, hmem, st1, hst1, R1⟩ := run_start (one := decide (g = "one")) (U := fun _ => False) okr h4 hh ep elk (by rw [em]; exact sortS_idem _) (by rw [em]; exact sortS_nodup.mpr hsub) hmk hmc hnm' hk (fun _ z => z.elim) (fun _ _ z => z)
    have hpl : st.people.length = n := by rw [ep, pplH_len]
    have hm60 : st.made.length < 60 := by
      have := sub_lenG (a := st.made) (by rw [em]; exact sortS_nodup.mpr hsub) hmk
      rw [keys_sortN, sortS_len, List.length_map] at this
      omega
    refine ws_exprW (Q' := fun _ H' => ∃ B3, StpX [] B H B3 H' ∧ BenchX K B3 H' p dl sl g (sortN rows) n (.st st1) (c + 1) ∧ H' tl = some (.lst ((lst.take i).map .str)) ∧ B3 tl = none ∧ Le B2 B3) (we_own1 T.u_Bench_call F2 hb2 (hr.mono (by decide)) hx.le (ev_name (i := 6) rfl) (ed_tup (ds := [.int (h : Nat), .str nm]) (ea_cons (ev_d (ev_name (i := 2) rfl) (.int _)) (ea_1 (ev_d (ev_name (i := 8) rfl) (.str _)))) (by show 2 ≤ 100000; decide)) fun v7 B7 H7 t7 hv7 => ⟨(hx.step t7).slot, p, v7, B7, dl, sl, g, sortN rows, n, st, c, (h, nm), .st st1, rfl, hx.step t7, by omega, hv7, okp, hpl, hmem, hm60, hst1, fun v9 B9 H9 x9 hx9 => ?_⟩) fun v3 H3 hv3 => ?_
    · have y := t7.x.trans x9 (hx.step t7).has
      obtain ⟨k1, k2⟩ := y.kept hS3 htl ntl
      exact ⟨B9, x2.add y hF3 (fun _ z => by cases z), hx9, k1, k2, y.up⟩
    obtain ⟨B3, x3, hx3, htl3, ntl3, l23⟩ := hv3
    refine cb_app (P1 := Pd.v (.str nm)) (ev_name (i := 8) rfl) hx3.le (ev_name (i := 7) rfl) htl3 (by rw [List.length_map, List.length_take]; omega) fun u B4 H4 t4 eu htl4 => ?_
    have eu' : u = .str nm := eu
    subst eu'
    have ntl4 : B4 tl = none := t4.non _ ntl3 (by rw [htl3]; simp)
    have x4 := (x3.trans t4.x (fun _ z => by cases z)).newD (o := .lst ((lst.take i).map .str ++ [.str nm])) ftl ntl4
    have hx4 := (hx3.step t4).put (o := .lst ((lst.take i).map .str ++ [.str nm])) ntl4 n1 n2 n3
    have etk : (lst.take i).map V.str ++ [.str nm] = (lst.take (i + 1)).map .str := by
      rw [List.take_succ, hnm, List.map_append]
      rfl
    rw [etk] at x4 hx4 ⊢
    refine ws_ifNW (J := fun H' => ∃ B5 st5 c5, StpX [] B H B5 H' ∧ BenchX K B5 H' p dl sl g (sortN rows) n (.st st5) c5 ∧ c5 ≤ 300 * (i + 1) ∧ H' tl = some (.lst ((lst.take (i + 1)).map .str)) ∧ B5 tl = none ∧ Le B4 B5 ∧ RunS (sortN rows) n h (fun _ => False) st.made nm st5 []) (wt_or2 (WT.mono (wt_neS (R := fun s H' => s = "out" ∧ ∃ B5 st5 c5, StpX [] B H B5 H' ∧ BenchX K B5 H' p dl sl g (sortN rows) n (.st st5) c5 ∧ c5 ≤ 300 * (i + 1) ∧ H' tl = some (.lst ((lst.take (i + 1)).map .str)) ∧ B5 tl = none ∧ Le B4 B5 ∧ RunS (sortN rows) n h (fun _ => False) st.made nm st5 []) (we_call (cal_law_alone T) hr hx4.le (ea_cons (ev_name (i := 6) rfl) (ea_1 (ev_name (i := 2) rfl))) fun vs B5 H5 t5 hs5 => ?_) (fun s H' H2 ⟨es, B5, st5, c5, x5, hx5, hc5, htl5, ntl5, l5, R5⟩ sm => ⟨es, B5, st5, c5, x5.step sm, hx5.step (Stp.keep hx5.le sm), hc5, sm _ _ htl5, ntl5, l5, R5⟩)) fun k H6 ⟨s, ek, es, B5, st5, c5, x5, hx5, hc5, htl5, ntl5, l5, R5⟩ => ?_)) fun H7 ⟨B5, st5, c5, x5, hx5, hc5, htl5, ntl5, l5, R5⟩ => ?_
    · obtain ⟨w1, w2, rfl, e1, e2⟩ := holds2 hs5
      have hx5 := hx4.step t5
      have ht5 := t5.same _ _ (upd_same : (upd H4 tl (.lst ((lst.take (i + 1)).map .str))) tl = _)
      have nt5 : B5 tl = none := t5.non _ ntl4 (by rw [upd_same]; simp)
      refine ⟨p, h, B5, dl, sl, g, sortN rows, n, st1, c + 1, st.made, nm, _, _, by rw [show w1 = _ from e1, show w2 = _ from e2], hx5, by omega, okr, h4, hh, R1, Nat.le_trans (phi_start okr) (by decide), fun st' c' B' H' x' hx' hc' R' => ?_, fun qq r st' c' B' H' x' hx' hc' R' hq3 hq4 => ?_⟩
      · obtain ⟨k1, k2⟩ := x'.kept hS3 ht5 nt5
        exact ⟨"out", rfl, rfl, B', st', c', (x4.trans t5.x (fun _ z => by cases z)).add x' hF3 (fun _ z => by cases z), hx', by omega, k1, k2, t5.up.trans x'.up, R'⟩
      · exact (R'.inv.nofault hmc (fun x hx => by rw [em, mem_sortS]; exact hneeds x hx) hq3 hq4).elim
    · subst es
      have ek' : k = false := by rw [ek]; rfl
      subst ek'
      rw [if_neg Bool.false_ne_true]
      have em5 : st5.made = sortS (lst.take (i + 1)) := by
        rw [← R5.srt]
        refine sortS_ext R5.inv.mn (hnd.sublist (List.take_sublist ..)) fun x => ?_
        rw [R5.inv.out1 hmc (fun x hx => by rw [em, mem_sortS]; exact hneeds x hx) x, em, mem_sortS, List.take_succ, hnm]
        simp
      obtain ⟨B8, l8, l8', hE, hk8⟩ := (hx5.ext ntl5 htl5 n1 n2 n3).known
      obtain ⟨hAt, dxp, fsp, hp8, hfs⟩ := BenchX.at hE
      have htl8 : B8 tl = some (.lst ((lst.take (i + 1)).map .str)) := l8.lst upd_same
      have hokn : ∀ z ∈ sortS (lst.take (i + 1)), okName z = true := fun z hz => by
        rw [mem_sortS] at hz
        exact okr.nm z (hkey z (List.mem_of_mem_take hz))
      refine WT.mono ((et_ned (k := false) (d1 := .list ((sortS (lst.take (i + 1))).map .str)) (d2 := .list ((sortS (lst.take (i + 1))).map .str)) (ru64 hr) (EvL.toD (el_ofT T.f_list rfl rfl (ed_ixT (ds := [.tuple (st5.made.map .str), lockD st5.lock, .tuple (st5.people.map stackD)]) (ev_meth0 (R := Pd.d K (.tuple [.tuple (st5.made.map .str), lockD st5.lock, .tuple (st5.people.map stackD)])) (met_bstate T) hr (ev_name (i := 6) rfl) hp8 hfs fun B9 l9 => ⟨p, g, sortN rows, n, .st st5, rfl, hAt.le l9, rfl⟩) ev_int (by rw [em5]; rfl)))) (ev_call (R := Pd.d K (.list ((sortS (lst.take (i + 1))).map .str))) (cal_law_sorted T) hr (ea_1 (ev_name (i := 7) rfl)) fun vs B9 l9 h9 => ?_) (shapedL hokn) (shapedL hokn) (congrArg (fun b => !b) (eqvS _))) H6 l8') fun b H9 ⟨eb, s9⟩ => ⟨eb, B5, st5, c5, x5.step s9, hx5.step (Stp.keep hx5.le s9), hc5, s9 _ _ htl5, ntl5, l5, R5⟩
      obtain ⟨w1, rfl, e1⟩ := holds1 h9
      exact ⟨.ref tl, lst.take (i + 1), by rw [show w1 = _ from e1], .inl (dp_map_str (l9.lst htl8)), by rw [List.length_take]; omega, rfl⟩
    · have em5 : st5.made = sortS (lst.take (i + 1)) := by
        rw [← R5.srt]
        refine sortS_ext R5.inv.mn (hnd.sublist (List.take_sublist ..)) fun x => ?_
        rw [R5.inv.out1 hmc (fun x hx => by rw [em, mem_sortS]; exact hneeds x hx) x, em, mem_sortS, List.take_succ, hnm]
        simp
      exact ws_nil ⟨B5, st5, c5, ((l2.trans l23).trans t4.up).trans l5, x5, hx5, hc5, htl5, ntl5, em5, R5.ppl, R5.lk0 rfl, _, _, rfl⟩
  · subst eσ
    rw [List.length_map] at hc htl em
    rw [List.take_length] at htl em
    obtain ⟨B8, l8, l8', hE, hk8⟩ := (hx.ext ntl htl n1 n2 n3).known
    obtain ⟨hAt, dxp, fsp, hp8, hfs⟩ := BenchX.at hE
    have lB8 : Le B B8 := x2.up.trans ((Le.new ntl).trans l8)
    obtain ⟨kvs, hd, hkv⟩ := kv
    have hlk : kvs.length = lst.length := by
      rw [hkv.len, hlen']
      exact List.length_map ..
    refine ws_ret (P := Pd.v (.bl true)) (ev_and (k := true) (j := true) (ev_is (v := .non) (ev_sc (d := .none) (ed_ixT (ds := [.tuple (st.made.map .str), lockD st.lock, .tuple (st.people.map stackD)]) (ev_meth0 (R := Pd.d K (.tuple [.tuple (st.made.map .str), lockD st.lock, .tuple (st.people.map stackD)])) (met_bstate T) hr (ev_name (i := 6) rfl) hp8 hfs fun B9 l9 => ⟨p, g, sortN rows, n, .st st, rfl, hAt.le l9, rfl⟩) ev_int (by rw [elk]; rfl)) rfl) rfl) fun _ => ev_eqs (x := .int ((lst.map PyData.str).length : Nat)) (y := .int (kvs.length : Nat)) (ev_lenL T.f_len (ev_d (ev_name (i := 7) rfl) (dp_map_str (l8.lst upd_same)))) (ev_lenD T.f_len (ev_get (ev_name (i := 1) rfl) (lB8.dk hown) ev_str own_needs (ru1 hr)) (lB8.dk hd)) rfl (by rw [hlk, List.length_map]; exact decide_eq_true rfl)) l8' fun v' B9 H9 s9 p9 => ?_
    have ev' : v' = .bl true := p9
    subst ev'
    exact fin B2 H9 (x2.step s9.same)
end
end K57

set_option Elab.async false
set_option linter.all false
set_option maxRecDepth 100000
set_option maxHeartbeats 4000000
/-! XE: _law_right, no order. -/
namespace K57
open PySem PySem.Spec PyProof.Rows L2
theorem inV_non : ∀ es : List Str, inV .non (es.map V.str) = false
  | [] => rfl
  | e :: es => by
    have ih := inV_non es
    unfold inV at ih ⊢
    rw [List.map_cons, List.any_cons, ih]
    rfl
theorem rd_some {H : Hp} {a : Addr} {kvs : List (Key × V)} (h : Rd H a (.dK kvs)) : H a ≠ none := by
  rcases h with h | ⟨ob, h⟩
  · rw [h]; simp
  · rw [h]; simp
theorem shapedF (h : Nat) : SeqAt.shaped (.tuple [.str "itself", .int (h : Nat)]) = true := by
  obtain ⟨h1, _⟩ := layS (l := ["itself"]) (by decide +kernel)
  have h2 : (PyData.canLay0 (.str "itself") && true) = true := h1
  unfold SeqAt.shaped
  rw [Bool.and_eq_true]
  refine ⟨?_, decide_eq_true (by
    show (1 : Nat) ≤ 64
    decide)⟩
  show (PyData.canLay0 (.str "itself") && (true && true)) = true
  exact h2
theorem eqvF (h : Nat) : PyData.eqv (.tuple [.str "itself", .int (h : Nat)]) (.tuple [.str "itself", .int (h : Nat)]) = true := by
  show ((("itself" : Str) == "itself") && (((h : Int) == (h : Int)) && true)) = true
  simp
section
variable {P : Program} {w : World} {K : PySem.W.Frag} {mg : Str → Option Value} {base : Heap} (T : Tx P K mg)
include T
theorem right_B {f : Addr} {cdv : Value} {A0 : Around} {outer : List Env} {s0 : Shared} {H0 : Hp} {E : XK} {D : Ends} {B H : Hp} {l o sa a q : Addr} {h n : Nat} {ov v : V} {g : Str} {rows : List (Str × List Str)} {c6 c7 c8 c9 : Option V}
    (hr : Room 12 (Cb P w K mg base NR "_law_right" (defScope s__law_right) f cdv A0 outer s0 H0 E).A) (lB : Le B H) (hown : Rd B o (.dK (ownK g q v))) (kv : KvAt K B q (rowsD rows)) (ok : OkNet rows) (hset : SetAt K B sa g (sortN rows) (n : Nat)) (h1 : 1 ≤ n) (h4 : n ≤ 4) (hh : h < n) (ho : orderN (sortN rows) = none)
    (ha : H a = some (.lst [])) (na : B a = none) (fin : ∀ B' H', StpX [a] B H B' H' → D.rt (.bl true) H') : WSs (Cb P w K mg base NR "_law_right" (defScope s__law_right) f cdv A0 outer s0 H0 E) ((defBody s__law_right).drop 6) D [some (.ref l), some (.ref o), some (.int (h : Nat)), some (.ref sa), some ov, some (.ref a), c6, c7, c8, c9] H := by
  obtain ⟨fd2, F2, hb2⟩ := fn_bcall (P := P) (w := w) (base := base) T
  have okr := okNet_sortN ok
  have hG := orderN_G (sortN rows)
  rw [ho] at hG
  obtain ⟨U0, ⟨u0, hu0, hU0⟩, hUh⟩ := order_stuck (keys := keysN (sortN rows)) (nd := lookN (sortN rows)) (fun k hk m hm => (okr.need k hk).2 m hm) okr.nd hG.symm
  have h5 := ok.hi
  obtain ⟨kvs, hd, hkv⟩ := kv
  have hkk : kvs.map (·.1) = (keysN rows).map Sum.inr := by rw [hkv.keys, rowsD_keys]
  have naq : a ≠ q := fun e => rd_some hd (by rw [← e]; exact na)
  refine cb_forK 8 (d := q) (kvs := kvs) (ks := keysN rows) (ev_get (ev_name (i := 1) rfl) hown ev_str own_needs (ru1 hr)) hd hkk lB fun H2 Un lk => ⟨fun i σ' H' => ∃ B2 es c6 c7 c8 c9, StpX [a] B H2 B2 H' ∧ H' a = some (.lst (es.map .str)) ∧ B2 a = none ∧ es.length = i ∧ (∀ (j : Nat) (u : Str), j < i → (keysN rows)[j]? = some u → U0 u → (es : List Str)[j]? = some ("fault" : Str)) ∧ σ' = [some (.ref l), some (.ref o), some (.int (h : Nat)), some (.ref sa), some ov, some (.ref a), c6, c7, c8, c9],
    ⟨B, [], c6, c7, c8, c9, StpX.refl lk.le, lk.same a _ naq ha, na, rfl, fun j u hj => absurd hj (Nat.not_lt_zero _), rfl⟩, fun i σ' H' ⟨B2, es, c6, c7, c8, c9, x2, _⟩ => ?_, fun i z σ' H' hi ⟨B2, es, c6, c7, c8, c9, x2, hes, n2, hlen, hU, eσ⟩ => ?_, fun σ' H' ⟨B2, es, c6, c7, c8, c9, x2, hes, n2, hlen, hU, eσ⟩ => ?_⟩
  · obtain ⟨od, hfz⟩ := lk.fz
    rw [hfz]
    exact x2.same q _ (fun z => naq (List.mem_singleton.mp z).symm) hfz
  · subst eσ
    have hz : z ∈ keysN rows := List.mem_of_getElem? hi
    have hzr : z ∈ keysN (sortN rows) := by rw [keys_sortN, mem_sortS]; exact hz
    have hil : i < rows.length := by
      have := (List.getElem?_eq_some_iff.mp hi).1
      rw [List.length_map] at this
      exact this
    have hSa : ∀ x ∈ [a], H' x ≠ none := fun x hx => by rw [List.mem_singleton.mp hx, hes]; simp
    refine cb_setW 6 (we_bench T hr (ev_name (i := 3) rfl) x2.lo (hset.le x2.up) h1 h4) fun v1 H3 ⟨p, dl, sl, B3, e1, x3, fp, fdl, fsl, hb⟩ => ?_
    subst e1
    obtain ⟨hes3, n3⟩ := x3.kept (fun z => by cases z) hes n2
    have hne : ∀ x ∈ [p, dl, sl], a ≠ x := fun x hx e => by
      have : H' x = none := by
        simp only [List.mem_cons, List.not_mem_nil, or_false] at hx
        rcases hx with e | e | e
        · rw [e]; exact fp
        · rw [e]; exact fdl
        · rw [e]; exact fsl
      rw [← e, hes] at this
      cases this
    have hS3 : a ∉ [p, dl, sl] := fun hx => hne a hx rfl
    have hF3 : ∀ x ∈ [p, dl, sl], H' x = none := fun x hx => by
      simp only [List.mem_cons, List.not_mem_nil, or_false] at hx
      rcases hx with e | e | e
      · rw [e]; exact fp
      · rw [e]; exact fdl
      · rw [e]; exact fsl
    obtain ⟨okp, hmem, st1, hst1, R1⟩ := run_start (st := ⟨[], none, List.replicate n []⟩) (one := decide (g = "one")) (U := U0) okr h4 hh pplH_nil.symm rfl rfl List.nodup_nil (fun m hm => by cases hm) (fun m hm => by cases hm) (fun hm => by cases hm) hzr hUh (fun m hm => by cases hm)
    have hpl : (⟨[], none, List.replicate n []⟩ : Sta).people.length = n := List.length_replicate ..
    refine ws_exprW (Q' := fun _ H4 => ∃ B4, StpX [p, dl, sl] B3 H3 B4 H4 ∧ BenchX K B4 H4 p dl sl g (sortN rows) n (.st st1) 1) (we_own1 T.u_Bench_call F2 hb2 (hr.mono (by decide)) hb.le (ev_name (i := 6) rfl) (ed_tup (ds := [.int (h : Nat), .str z]) (ea_cons (ev_d (ev_name (i := 2) rfl) (.int _)) (ea_1 (ev_d (ev_name (i := 8) rfl) (.str _)))) (by show 2 ≤ 100000; decide)) fun v7 B7 H7 t7 hv7 => ⟨(hb.step t7).slot, p, v7, B7, dl, sl, g, sortN rows, n, _, 0, (h, z), .st st1, rfl, hb.step t7, by omega, hv7, okp, hpl, hmem, by show 0 < 60; decide, hst1, fun v9 B9 H9 x9 hx9 => ⟨B9, t7.x.trans x9 (hb.step t7).has, hx9⟩⟩) fun v4 H4 ⟨B4, x4, hx4⟩ => ?_
    refine cb_setW 9 (Q' := fun v H5 => ∃ B5 c5, StpX [p, dl, sl] B3 H3 B5 H5 ∧ ((∃ st', v = .str "out" ∧ BenchX K B5 H5 p dl sl g (sortN rows) n (.st st') c5 ∧ RunS (sortN rows) n h U0 [] z st' []) ∨ ∃ nm, v = .str "fault" ∧ BenchX K B5 H5 p dl sl g (sortN rows) n (.bad h nm) c5)) (we_call (cal_law_alone T) hr hx4.le (ea_cons (ev_name (i := 6) rfl) (ea_1 (ev_name (i := 2) rfl))) fun vs B5 H5 t5 hs5 => ?_) fun ev H5 ⟨B5, c5, x5, hcase⟩ => ?_
    · obtain ⟨w1, w2, rfl, e1, e2⟩ := holds2 hs5
      have hx5 := hx4.step t5
      exact ⟨p, h, B5, dl, sl, g, sortN rows, n, st1, 1, [], z, U0, _, by rw [show w1 = _ from e1, show w2 = _ from e2], hx5, by omega, okr, h4, hh, R1, Nat.le_trans (phi_start okr) (by decide), fun st' c' B' H' x' hx' hc' R' => ⟨B', c', (x4.trans t5.x hx4.has).trans x' hx5.has, .inl ⟨st', rfl, hx', R'⟩⟩, fun qq r st' c' B' H' x' hx' hc' R' hq3 hq4 => ⟨B', c', (x4.trans t5.x hx4.has).trans x' hx5.has, .inr ⟨qq.1, rfl, hx'⟩⟩⟩
    have x35 : StpX [a] B H2 B5 H5 := x2.add (x3.add x5 hF3 (fun _ z => by cases z)) (fun _ z => by cases z) hSa
    obtain ⟨hes5, n5⟩ := x5.kept hS3 hes3 n3
    have hxle : Le B5 H5 := x5.lo
    rcases hcase with ⟨st', e5, hx5, R5⟩ | ⟨nm, e5, hx5⟩
    · subst e5
      obtain ⟨B8, l8, l8', hE, hk8⟩ := hx5.known
      obtain ⟨hAt, dxp, fsp, hp8, hfs⟩ := BenchX.at hE
      have lB8 : Le B B8 := x35.up.trans l8
      have em5 : st'.made = sortS (reachL rows z) := by
        rw [← R5.srt]
        refine sortS_ext R5.inv.mn (nodup_ded List.nodup_nil) fun x => ?_
        rw [R5.inv.out0 x, mem_reachL ok hz, look_sortN]
      have hokn : ∀ y ∈ sortS (reachL rows z), okName y = true := fun y hy => by
        rw [← em5] at hy
        exact okr.nm y (R5.inv.mkk y hy)
      refine ws_ifN (et_and2 (k := true) (j := false) (et_eqs (ev_name (i := 9) rfl) ev_str rfl rfl) fun _ => et_ned (k := false) (d1 := .list ((sortS (reachL rows z)).map .str)) (d2 := .list ((sortS (reachL rows z)).map .str)) (ru64 hr) (EvL.toD (el_ofT T.f_list rfl rfl (ed_ixT (ds := [.tuple (st'.made.map .str), lockD st'.lock, .tuple (st'.people.map stackD)]) (ev_meth0 (R := Pd.d K (.tuple [.tuple (st'.made.map .str), lockD st'.lock, .tuple (st'.people.map stackD)])) (met_bstate T) hr (ev_name (i := 6) rfl) hp8 hfs fun B9 l9 => ⟨p, g, sortN rows, n, .st st', rfl, hAt.le l9, rfl⟩) ev_int (by rw [em5]; rfl)))) (ev_call (R := Pd.d K (.list ((sortS (reachL rows z)).map .str))) (cal_law_reach T) hr (ea_cons (ev_get (ev_name (i := 1) rfl) (lB8.dk hown) ev_str own_needs (ru1 hr)) (ea_1 (ev_name (i := 8) rfl))) fun vs B9 l9 h9 => ?_) (shapedL hokn) (shapedL hokn) (congrArg (fun b => !b) (eqvS _))) l8' fun H6 t6 => ?_
      · obtain ⟨w1, w2, rfl, e1, e2⟩ := holds2 h9
        exact ⟨q, rows, z, by rw [show w1 = _ from e1, show w2 = _ from e2], ⟨kvs, (lB8.trans l9).dk hd, hkv.le (lB8.trans l9)⟩, ok, hz, rfl⟩
      refine ws_ifN (et_and2 (k := false) (j := false) (et_eqs (ev_name (i := 9) rfl) ev_str rfl (by decide +kernel)) fun e => nomatch e) (l8'.trans (le_of t6)) fun H7 t7 => ?_
      have s67 := t6.trans t7
      refine cb_app (P1 := Pd.v (.str "out")) (ev_name (i := 9) rfl) (hxle.trans (le_of s67)) (ev_name (i := 5) rfl) (s67 _ _ hes5) (by rw [List.length_map]; omega) fun u B9 H9 t9 eu h9 => ws_nil ?_
      have eu' : u = .str "out" := eu
      subst eu'
      have n9 : B9 a = none := t9.non a n5 (by rw [s67 _ _ hes5]; simp)
      have x9 := (x35.step s67).trans t9.x (fun x hx => by rw [List.mem_singleton.mp hx, s67 _ _ hes5]; simp)
      refine ⟨B9, es ++ [("out" : Str)], _, _, _, _, x9.after (List.mem_singleton.mpr rfl) na (by rw [lk.same a _ naq ha]; simp), by rw [upd_same, List.map_append]; rfl, n9, by rw [List.length_append, hlen]; rfl, fun j u hj hu hUu => ?_, rfl⟩
      rcases Nat.lt_succ_iff_lt_or_eq.mp hj with hj | hj
      · rw [List.getElem?_append_left (by omega)]
        exact hU j u hj hu hUu
      · subst hj
        rw [hi] at hu
        cases hu
        exact (R5.inv.stuck hUu).elim
    · subst e5
      obtain ⟨B8, l8, l8', hE, hk8⟩ := hx5.known
      obtain ⟨hAt, dxp, fsp, hp8, hfs⟩ := BenchX.at hE
      refine ws_ifN (et_and2 (k := false) (j := false) (et_eqs (ev_name (i := 9) rfl) ev_str rfl (by decide +kernel)) fun e => nomatch e) l8' fun H6 t6 => ?_
      refine ws_ifN (et_and2 (k := true) (j := false) (et_eqs (ev_name (i := 9) rfl) ev_str rfl rfl) fun _ => et_ned (k := false) (d1 := .tuple [.str "itself", .int (h : Nat)]) (d2 := .tuple [.str "itself", .int (h : Nat)]) (ru64 hr) (ed_eq (ed_slT (ds := [.str "itself", .int (h : Nat), .str nm]) (ev_prop (R := Pd.d K (faultD (.bad h nm))) (prp_fault T) hr (ev_name (i := 6) rfl) hp8 fun B9 l9 => ⟨p, g, sortN rows, n, .bad h nm, rfl, hAt.le l9, rfl⟩) eo_none (eo_some ev_int)) rfl) (ed_tup (ds := [.str "itself", .int (h : Nat)]) (ea_cons ed_str (ea_1 (ev_d (ev_name (i := 2) rfl) (.int _)))) (by show 2 ≤ 100000; decide)) (shapedF h) (shapedF h) (congrArg (fun b => !b) (eqvF h))) (l8'.trans (le_of t6)) fun H7 t7 => ?_
      have s67 := t6.trans t7
      refine cb_app (P1 := Pd.v (.str "fault")) (ev_name (i := 9) rfl) (hxle.trans (le_of s67)) (ev_name (i := 5) rfl) (s67 _ _ hes5) (by rw [List.length_map]; omega) fun u B9 H9 t9 eu h9 => ws_nil ?_
      have eu' : u = .str "fault" := eu
      subst eu'
      have n9 : B9 a = none := t9.non a n5 (by rw [s67 _ _ hes5]; simp)
      have x9 := (x35.step s67).trans t9.x (fun x hx => by rw [List.mem_singleton.mp hx, s67 _ _ hes5]; simp)
      refine ⟨B9, es ++ [("fault" : Str)], _, _, _, _, x9.after (List.mem_singleton.mpr rfl) na (by rw [lk.same a _ naq ha]; simp), by rw [upd_same, List.map_append]; rfl, n9, by rw [List.length_append, hlen]; rfl, fun j u hj hu hUu => ?_, rfl⟩
      rcases Nat.lt_succ_iff_lt_or_eq.mp hj with hj | hj
      · rw [List.getElem?_append_left (by omega)]
        exact hU j u hj hu hUu
      · rw [List.getElem?_append_right (by omega), show j - es.length = 0 by omega]
        rfl
  · subst eσ
    have xU := lk.un (fun z => naq (List.mem_singleton.mp z).symm) x2
    have haU : Un H' a = some (.lst (es.map .str)) := by rw [lk.off H' a naq]; exact hes
    have hfl : ("fault" : Str) ∈ es := by
      rw [keys_sortN, mem_sortS] at hu0
      obtain ⟨j, hj⟩ := List.mem_iff_getElem?.mp hu0
      exact List.mem_of_getElem? (hU j u0 (List.getElem?_eq_some_iff.mp hj).1 hj hU0)
    refine ws_ret (P := Pd.v (.bl true)) (ev_and (k := true) (j := true) (ev_in (q := a) (ss := es.map V.str) ev_str (ev_d (ev_name (i := 5) rfl) (dp_map_str upd_same)) hP_L rfl (flat_str es) (by rw [inV_str]; exact decide_eq_true hfl)) fun _ => ev_nin (q := a) (ss := es.map V.str) ev_none (ev_d (ev_name (i := 5) rfl) (dp_map_str upd_same)) hP_L rfl (flat_str es) (by rw [inV_non]; rfl)) (le_put xU.lo haU) fun v' B9 H9 s9 p9 => ?_
    have ev' : v' = .bl true := p9
    subst ev'
    exact fin B2 H9 (xU.step s9.same)
end
end K57

set_option Elab.async false
set_option linter.all false
set_option maxRecDepth 100000
set_option maxHeartbeats 4000000
/-! XF: _law_right. -/
namespace K57
open PySem PySem.Spec PyProof.Rows L2
theorem own_put_needs {g : Str} {q q' : Addr} {v : V} : putK (ownK g q v) (.inr "needs") (.ref q') = ownK g q' v := by kernel_rfl
theorem own_put_numbers {g : Str} {q : Addr} {v v' : V} : putK (ownK g q v) (.inr "numbers") v' = ownK g q v' := by kernel_rfl
/-- the promise of _law_right(pool) -/
def spRight : Sp := fun vs H Q _ => ∃ l B, vs = [.ref l] ∧ PoolX B H l ∧ ∀ B' H', StpX [l] B H B' H' → Q (.bl true) H'
section
variable {P : Program} {w : World} {K : PySem.W.Frag} {mg : Str → Option Value} {base : Heap} (T : Tx P K mg)
include T
theorem cal_law_right : C8.Cal P w K mg base 13 "_law_right" spRight [] := by
  obtain ⟨fd, F⟩ := T.d__law_right
  refine ⟨_, fd, ["pool"], [], fn_w F (N := NR) ⟨rfl, rfl, rfl, by decide +kernel, rfl, by decide +kernel, by decide +kernel⟩ (fun vs H Q E ⟨_, _, e, _⟩ => by rw [e]; rfl) ?_, T.g__law_right, F.kp, F.bindsN (fun _ _ _ _ _ _ us hl => match us, hl with | [_], _ => rfl), .nil⟩
  intro cdv A0 outer s0 H0 vs H Q E hr ⟨l, B, e, hp, fin⟩
  subst e
  refine cb_setW 1 (we_call (cal_law_own T) hr hp.le (ea_cons (ev_name (i := 0) rfl) (ea_1 ev_str)) (Q := fun v H' => ∃ o g q rows v1 B', v = .ref o ∧ okG g ∧ OkNet rows ∧ KvAt K B' q (rowsD rows) ∧ B' o = none ∧ H o = none ∧ H' o = some (.dK (ownK g q v1)) ∧ StpX [l] B H B' H' ∧ PoolX B' H' l) (fun vs B2 H2 t hs => ?_)) fun ov H1 ⟨o, g, q, rows, v1, B1, e1, hg, ok, kv, n1, ho, ho1, x1, hp1⟩ => ?_
  · obtain ⟨w1, w2, rfl, e1, e2⟩ := holds2 hs
    exact ⟨l, B2, by rw [show w1 = _ from e1, show w2 = _ from e2], hp.step t, fun o g q rows v B' H' hg ok kv n1 no ho x hp' => ⟨o, g, q, rows, v, B', rfl, hg, ok, kv, n1, t.same.free no, ho, t.x.trans x (hp.step t).has, hp'⟩⟩
  subst e1
  have hol : o ≠ l := fun e => hp.has l (List.mem_singleton.mpr rfl) (by rw [← e]; exact ho)
  have hol' : o ∉ [l] := fun h => hol (List.mem_singleton.mp h)
  refine ws_ifJ (fun H' => ∃ q rows v1 B', OkNet rows ∧ KvAt K B' q (rowsD rows) ∧ B' o = none ∧ H' o = some (.dK (ownK g q v1)) ∧ StpX [l] B H B' H' ∧ PoolX B' H' l) (wt_takeEq (R := fun _ B' H' => StpX [l] B1 H1 B' H' ∧ PoolX B' H' l) (WE.mono (we_take (cal_take T) hr hp1 (ev_name (i := 0) rfl) ev_int (m := 3) (by decide) (by decide)) fun v H' ⟨r, B', e1, _, h1, h2⟩ => ⟨r, B', e1, h1, h2⟩) (fun r B' H' H2 ⟨h1, h2⟩ s => ⟨h1.step s, h2.step (Stp.keep h2.le s)⟩)) (fun H2 ⟨r, B2, _, x2, hp2⟩ => ?_) (fun H2 ⟨r, B2, _, x2, hp2⟩ => ?_) fun H2 ⟨q, rows, v1, B2, ok, kv, n2, ho2, x2, hp2⟩ => ?_
  · obtain ⟨o2, n2⟩ := x2.kept hol' ho1 n1
    refine ws_keyW (a := o) (z := "needs") (ru1 hr) (Q' := fun v H' => ∃ B' q rows, OkNet rows ∧ KvAt K B' q (rowsD rows) ∧ v = .ref q ∧ StpX [l] B2 H2 B' H' ∧ PoolX B' H' l) (we_call2W (cal_law_wide_needs T) hr ((we_ev (B := B2) (ev_name (i := 0) rfl) hp2.le).mono fun w1 H4 ⟨e1, B4, s4⟩ => (we_takeEq (R := fun _ B' H' => StpX [l] B4 H4 B' H' ∧ PoolX B' H' l) (WE.mono (we_take (cal_take T) hr (hp2.step s4) (ev_name (i := 0) rfl) ev_int (m := 2) (by decide) (by decide)) fun v H' ⟨r, B', e1, _, h1, h2⟩ => ⟨r, B', e1, h1, h2⟩) (fun r B' H' H2 ⟨h1, h2⟩ s => ⟨h1.step s, h2.step (Stp.keep h2.le s)⟩)).mono fun w2 H5 ⟨b, e2, r, B5, x5, hp5⟩ => ?_)) fun u H4 ⟨B4, q', rows', ok', kv', e4, x4, hp4⟩ => ⟨B4, _, hp4.le, (ev_name (i := 1) rfl), ev_str, (x4.kept hol' o2 n2).1, by show 4 < 1000; decide, fun H5 s5 => ?_⟩
    · subst e1 e2
      exact ⟨l, b, B5, rfl, hp5, fun q rows B' H' ok kv x6 hp6 => ⟨B', q, rows, ok, kv, rfl, (s4.x.trans x5 (hp2.step s4).has).trans x6 hp5.has, hp6⟩⟩
    · subst e4
      obtain ⟨o4, n4⟩ := x4.kept hol' o2 n2
      rw [own_put_needs]
      have x5 := ((x1.trans x2 hp1.has).trans x4 hp2.has).step s5
      exact ws_nil ⟨rfl, q', rows', v1, B4, ok', kv', n4, upd_same, x5.newD ho n4, (hp4.step (Stp.keep hp4.le s5)).put hol n4⟩
  · obtain ⟨o2, n2⟩ := x2.kept hol' ho1 n1
    exact ⟨q, rows, v1, B2, ok, kv.le x2.up, n2, o2, x1.trans x2 hp1.has, hp2⟩
  refine ws_keyW (a := o) (z := "numbers") (ru1 hr) (Q' := fun v H3 => ∃ B3 k, k < 4 ∧ StpX [l] B2 H2 B3 H3 ∧ PoolX B3 H3 l ∧ Dp K B3 v (.tuple [.int ((k + 1 : Nat) : Int), .int 1, .int 0])) (we_tup3 (we_add ((we_ev (B := B2) ev_int hp2.le).mono fun w1 H4 ⟨e1, B4, s4⟩ => ⟨1, e1, (we_take (cal_take T) hr (hp2.step s4) (ev_name (i := 0) rfl) ev_int (m := 4) (by decide) (by decide)).mono fun w2 H5 ⟨r, B5, e2, hr4, x5, hp5⟩ => ⟨r, e2, (we_ev (B := B5) ev_int hp5.le).mono fun w3 H6 ⟨e3, B6, s6⟩ => (we_ev (B := B6) ev_int s6.lo).mono fun w4 H7 ⟨e4, B7, s7⟩ => fun t ht => ?_⟩⟩))) fun u H3 ⟨B3, k, hk4, x3, hp3, hu⟩ => ⟨B3, _, hp3.le, (ev_name (i := 1) rfl), ev_str, (x3.kept hol' ho2 n2).1, by show 4 < 1000; decide, fun H4 s4 => ?_⟩
  · subst e3 e4
    have s67 := s6.trans s7
    have hp7 := hp5.step s67
    have x7 : StpX [l] B2 H2 B7 H7 := (s4.x.trans x5 (hp2.step s4).has).trans s67.x hp5.has
    have st : Stp B7 H7 (upd B7 t (.tup [.int (1 + (r : Int)), .int 1, .int 0])) (upd H7 t (.tup [.int (1 + (r : Int)), .int 1, .int 0])) := Stp.new s67.lo ht
    refine ⟨_, r, hr4, x7.trans st.x hp7.has, hp7.step st, ?_⟩
    rw [show ((r + 1 : Nat) : Int) = 1 + (r : Int) by omega]
    exact .tup (SqT.of upd_same) (.cons (.int _) (.cons (.int _) (.cons (.int _) .nil)))
  obtain ⟨o3, n3⟩ := x3.kept hol' ho2 n2
  rw [own_put_numbers]
  have x4 := ((x2.trans x3 hp2.has).step s4).newD (o := .dK (ownK g q u)) ho n3
  have hp4 := (hp3.step (Stp.keep hp3.le s4)).put (o := .dK (ownK g q u)) hol n3
  have x5 := x4.ownD ho upd_same n3
  have hp5 := hp4.ownD hol upd_same
  have l35 : Le B3 (upd B3 o (.dK (ownK g q u))) := Le.new n3
  have rd5 : Rd (upd B3 o (.dK (ownK g q u))) o (.dK (ownK g q u)) := .inl upd_same
  have kv5 := kv.le (x3.up.trans l35)
  have hu5 := l35.dp hu
  generalize upd B3 o (.dK (ownK g q u)) = B5 at x5 hp5 l35 rd5 kv5 hu5
  generalize upd H4 o (.dK (ownK g q u)) = H5 at x5 hp5
  refine cb_par2 2 3 ((we_take (cal_take T) hr hp5 (ev_name (i := 0) rfl) (ev_sc (v := .int ((k + 1 : Nat) : Int)) (ed_ixT (ev_d (ev_get (ev_name (i := 1) rfl) rd5 ev_str own_numbers (ru1 hr)) hu5) ev_int rfl) rfl) (m := k + 1) (by omega) (by omega)).mono fun v6 H6 ⟨h, B6, e6, hh, x6, hp6⟩ => ((ev_call (R := Pd.set K g (sortN rows) ((k + 1 : Nat) : Int)) (cal_law_setting T) hr (ea_1 (ev_name (H := B6) (i := 1) rfl)) fun vs B7 l7 h7 => ?_) H6 hp6.le).mono fun v7 H7 ⟨B7, s7, sa, e7, hset⟩ => ?_)
  · obtain ⟨w1, rfl, e1⟩ := holds1 h7
    have l57 := x6.up.trans l7
    exact ⟨o, g, q, u, rows, _, by rw [show w1 = _ from e1], l57.dk rd5, hg, ok, kv5.le l57, l57.dp hu5, by omega, by omega, rfl⟩
  subst e6 e7
  have x7 := (x5.trans x6 hp5.has).trans s7.x hp6.has
  have hp7 := hp6.step s7
  have l57 := x6.up.trans s7.up
  have rd7 := l57.dk rd5
  have kv7 := kv5.le l57
  have okr := okNet_sortN ok
  refine cb_par2 4 5 (((ev_meth0P (R := Pd.d K (orderD (orderN (sortN rows)))) (P0 := Pd.net K (sortN rows)) (met_Net_order T) hr (ev_make (P := Pd.net K (sortN rows)) (Fs := fun fs B' => ∃ r : Addr, fs = [(("rows" : Str), V.ref r)] ∧ KvAt K B' r (rowsD (sortN rows))) (mak_Net T) hr (ea_1 (ev_get (ev_name (i := 1) rfl) rd7 ev_str own_needs (ru1 hr))) (fun vs B9 l9 h9 => ?_) (fun p dx fs B' hB ⟨r, e1, e2⟩ => ?_)) fun v9 B9 l9 ⟨r, e9, hn9⟩ => ?_) H7 hp7.le).mono fun v8 H8 ⟨B8, s8, hord⟩ => we_nil.mono fun v9 H9 ⟨a, e9, ha, e10⟩ => ?_)
  · obtain ⟨w1, rfl, e1⟩ := holds1 h9
    exact ⟨q, rows, by rw [show w1 = _ from e1], kv7.le l9, ok, rfl⟩
  · subst e1
    exact ⟨p, rfl, dx, r, upd_same, e2.le (Le.new hB)⟩
  · have hn9' := hn9
    obtain ⟨dx, r1, g1, g2⟩ := hn9
    exact ⟨r, dx, _, e9, g1, rfl, r, sortN rows, rfl, hn9', okr, rfl⟩
  subst e9 e10
  have hp8 := hp7.step s8
  have x8 := x7.trans s8.x hp7.has
  have na : B8 a = none := le_none s8.lo ha
  have x9 := x8.step (same_new (o := .lst []) ha)
  have l9 : Le B8 (upd H8 a (.lst [])) := x9.lo
  have fa : H a = none := by
    cases ea : H a with
    | none => rfl
    | some u =>
      by_cases q : a ∈ [l]
      · exact absurd ha (hp8.has a q)
      · rw [x8.same a u q ea] at ha; cases ha
  have hS : ∀ x ∈ [l], (upd H8 a (.lst [])) x ≠ none := fun x hx => by
    have : x ≠ a := fun e => hp8.has x hx (by rw [e]; exact ha)
    rw [upd_ne this]
    exact hp8.has x hx
  have rd8 := s8.up.dk rd7
  have kv8 := kv7.le s8.up
  have hset8 := hset.le s8.up
  cases hoo : orderN (sortN rows) with
  | some lst =>
    have hord' : Dp K B8 v8 (.list (lst.map .str)) := by
      have := hord
      rw [hoo] at this
      exact this
    refine ws_ifY (et_isntL (ev_d (ev_name (i := 4) rfl) hord')) l9 fun H10 t10 => ?_
    exact right_A T hr (l9.trans (le_of t10)) rd8 kv8 ok hset8 (by omega) (by omega) hh hord' hoo fun B' H' x => fin B' H' ((x9.step t10).add x (fun _ z => by cases z) fun x hx => same_some t10 (hS x hx))
  | none =>
    have hord' : Dp K B8 v8 .none := by
      have := hord
      rw [hoo] at this
      exact this
    refine ws_ifN (et_isnt (v := .non) (ev_sc (d := .none) (ev_d (ev_name (i := 4) rfl) hord') rfl) rfl) l9 fun H10 t10 => ?_
    exact right_B T hr (l9.trans (le_of t10)) rd8 kv8 ok hset8 (by omega) (by omega) hh hoo (t10 _ _ upd_same) na fun B' H' x => fin B' H' ((x9.step t10).add x (fun y hy => by rw [List.mem_singleton.mp hy]; exact fa) fun x hx => same_some t10 (hS x hx))
end
end K57

set_option Elab.async false
set_option linter.all false
set_option maxRecDepth 100000
set_option maxHeartbeats 4000000
/-! XG: law. -/
namespace K57
open PySem PySem.Spec PyProof.Rows L2
section
variable {X : Cx} {a e1 e2 : Expr} {σ : L2.St} {B H : Hp} {pos p : Pos} {Q : VK}
theorem ev_max2 {i j : Int} (hc : X.calm = true) (hm : X.mg "max" = none) (h1 : Ev X e1 σ H (.int i)) (h2 : Ev X e2 σ H (.int j)) (hg : Gl X "max" := by rfl) (he : starEach [e1, e2] X.env = (false, eval e1 X.env) :: starEach [e2] X.env := by rfl) (he2 : starEach [e2] X.env = (false, eval e2 X.env) :: starEach [] X.env := by rfl) (hpl : (backTo pos (starEach [e2] X.env)).any (·.1) = false := by rfl) :
    Ev X (.Call (.Name "max" p) [e1, e2] [] pos) σ H (.int (if j > i then j else i)) :=
  ev_cb (call_max2 hc) hm rfl (ea_cons h1 (ea_1 h2 he2) he) (fun vs B H' lb l hs Q q => by
    obtain ⟨v1, v2, rfl, p1, p2⟩ := holds2 hs
    exact ⟨i, j, by rw [show v1 = _ from p1, show v2 = _ from p2], q _ B _ (.refl l) rfl⟩) hg (by decide) (by decide) he hpl
theorem ev_min2 {i j : Int} (hc : X.calm = true) (hm : X.mg "min" = none) (h1 : Ev X e1 σ H (.int i)) (h2 : Ev X e2 σ H (.int j)) (hg : Gl X "min" := by rfl) (he : starEach [e1, e2] X.env = (false, eval e1 X.env) :: starEach [e2] X.env := by rfl) (he2 : starEach [e2] X.env = (false, eval e2 X.env) :: starEach [] X.env := by rfl) (hpl : (backTo pos (starEach [e2] X.env)).any (·.1) = false := by rfl) :
    Ev X (.Call (.Name "min" p) [e1, e2] [] pos) σ H (.int (if j < i then j else i)) :=
  ev_cb (call_min2 hc) hm rfl (ea_cons h1 (ea_1 h2 he2) he) (fun vs B H' lb l hs Q q => by
    obtain ⟨v1, v2, rfl, p1, p2⟩ := holds2 hs
    exact ⟨i, j, by rw [show v1 = _ from p1, show v2 = _ from p2], q _ B _ (.refl l) rfl⟩) hg (by decide) (by decide) he hpl
theorem we_call1W {sp : Sp} {k j : Nat} {n : Str} (c : C8.Cal X.prog X.w X.K X.mg X.base k n sp []) (hr : Room j X.A) (h : WE X e1 σ H fun v1 H1 => sp [v1] H1 Q C8.E0) (hk : k ≤ j := by decide) (hg : Gl X n := by rfl)
    (hdb : (n == ("__debug__" : Str)) = false := by decide) (g1 : starEach [e1] X.env = (false, eval e1 X.env) :: starEach [] X.env := by rfl) (hpl : (backTo pos (starEach [] X.env)).any (·.1) = false := by rfl) : WE X (.Call (.Name n p) [e1] [] pos) σ H Q :=
  .of (C8.pe_c c hr hk hg (pa_cons pe_w pa_nil g1) hdb g1 hpl) (h.mono fun v1 H1 h => h)
/-- not e, e with effects and true -/
theorem wt_notW {J : Hp → Prop} (h : WE X a σ H fun v H' => v = .bl true ∧ J H') (he : ∀ whole, isTrue a X.env whole = (do let v ← whole; standAt a.pos; holding [v] (truthy v)) := by intro _; rfl) : WT X (.UnaryOp .Not a pos) σ H (fun b H' => b = false ∧ J H') :=
  .of (pt_not (pt_val pe_w he)) (h.mono fun v H' ⟨e, j⟩ => ⟨true, e, rfl, j⟩)
end
/-- the promise of the law -/
def spLaw (K : PySem.W.Frag) : Sp := fun vs H Q _ => ∃ (a : Addr) (ns : List Int), vs = [.ref a] ∧ SqL K H a (ns.map V.int) ∧ ∀ H', Q (.bl true) H'
theorem dpa_int {K : PySem.W.Frag} {H : Hp} : ∀ ns : List Int, DpAll K H (ns.map V.int) (ns.map PyData.int)
  | [] => .nil
  | n :: r => .cons (.int n) (dpa_int r)
section
variable {P : Program} {w : World} {K : PySem.W.Frag} {mg : Str → Option Value} {base : Heap} (T : Tx P K mg)
include T
theorem ok_law {fd : FuncData} (F : FunD K "law" "law" (defArgs s_law) (defBody s_law) (defScope s_law) [] [] (He.ga K "law") fd) : FnOk P w K mg base CX0 14 (He.ga K "law") fd ["script"] (spLaw K) := by
  refine fn_w F (N := ["script", "k"]) ⟨rfl, rfl, rfl, by decide +kernel, rfl, by decide +kernel, by decide +kernel⟩ (fun vs H Q E ⟨_, _, e, _⟩ => by rw [e]; rfl) ?_
  intro cdv A0 outer s0 H0 vs H Q E hr ⟨a, ns, e, hs, fin⟩
  subst e
  have hD : Dp K H (.ref a) (.list (ns.map .int)) := .lst hs (dpa_int ns)
  refine cb_forR 1 (n := max 1 (min 6 ns.length)) (ev_eq (ev_max2 rfl T.f_max ev_int (ev_min2 rfl T.f_min ev_int (ev_lenL T.f_len (ev_d (ev_name (i := 0) rfl) hD)))) (by
    rw [List.length_map]
    congr 1
    split <;> split at * <;> omega)) (Le.refl H) T.f_range (by omega) (fun B' i σ' H' => ∃ B2 c, Stp H H B2 H' ∧ σ' = [some (.ref a), c]) (fun B' H' t => ⟨B', none, t, rfl⟩) (fun B' i σ' H' lB hi ⟨B2, c, s2, eσ⟩ => ?_) (fun B' σ' H' lB ⟨B2, c, s2, eσ⟩ => ?_)
  · subst eσ
    refine ws_ifNW (J := fun H' => ∃ B3, Stp H H B3 H') (wt_notW (we_call1W (cal_law_right T) hr ((we_call (cal_pool T) hr s2.lo (ea_cons (ev_name (i := 0) rfl) (ea_1 (ev_name (i := 1) rfl))) (fun vs B4 H4 t4 h4 => ?_) (Q := fun v H5 => ∃ l B5, v = .ref l ∧ Stp H H B5 H5 ∧ H l = none ∧ PoolX B5 H5 l)).mono fun v H5 ⟨l, B5, e5, s5, fl, hp5⟩ => ⟨l, B5, by rw [e5], hp5, fun B' H' x => ⟨rfl, B', s5.ownS x fun y hy => by rw [List.mem_singleton.mp hy]; exact fl⟩⟩))) fun H6 ⟨B6, s6⟩ => ws_nil ⟨B6, _, s6, rfl⟩
    obtain ⟨w1, w2, rfl, e1, e2⟩ := holds2 h4
    have s4 := s2.trans t4
    exact ⟨w1, i, B4, ns, by rw [show w2 = _ from e2], t4.lo, by rw [show w1 = _ from e1]; exact s4.up.dp hD, fun l B' H' s hl hp => ⟨l, B', rfl, s4.trans s, s4.same.free hl, hp⟩⟩
  · subst eσ
    refine ws_ret (P := Pd.v (.bl true)) ev_bool s2.lo fun v' B9 H9 s9 p9 => ?_
    have ev' : v' = .bl true := p9
    subst ev'
    exact fin H9
end
end K57

set_option Elab.async false
set_option linter.all false
set_option maxRecDepth 100000
set_option maxHeartbeats 0
/-! XH: the whole. -/
namespace K57
open PySem PySem.Spec PyProof.Rows L2
theorem facts {w : World} {K : PySem.W.Frag} {h : Heap} {mg : Str → Option Value} {f : Addr} (X : K.In h) (G : h.Ns mainGlobals mg) (hfa : mg ("law" : Str) = some (.ref f)) (c : SaysZ K) :
    ∃ fd : FuncData, (∀ (s : Shared) (v : Value), BindsTo s fd ⟨[v], []⟩ [("script", v)]) ∧ ∀ base : Heap, K.In base → base.Ns mainGlobals mg → FnOk PySem.Challenge.pw_firstmade_k57_whole_nets_made_in_order w K mg base CX0 14 f fd ["script"] (spLaw K) := by
  have T := tx_of X G c
  obtain ⟨fd, F⟩ := T.d_law
  have e := hfa.symm.trans T.g_law
  cases e
  have b := FunD.bindsA (ps := ["script"]) F fun _ _ _ _ _ _ us hl => match us, hl with | [_], _ => rfl
  exact ⟨fd, fun s v => b s [v] rfl, fun base _ _ => ok_law T F⟩
end K57
open PySem PySem.W PySem.Calls PyProof.Rows
theorem PySem.Challenge.cw_firstmade_k57_whole_nets_made_in_order_holds : PySem.Challenge.rw_firstmade_k57_whole_nets_made_in_order.Holds := by
  w_on; o_law
  refine HandSHeadRun.head_any (r := OpenLaw.row PySem.Challenge.rw_firstmade_k57_whole_nets_made_in_order) (q := view (OpenLaw.row PySem.Challenge.rw_firstmade_k57_whole_nets_made_in_order).prog [89]) (H := K57.hookZ) (ob := K57.ob) (M := 20000) (loose := K57.names) (d := HandSHeadRun.topDef (OpenLaw.row PySem.Challenge.rw_firstmade_k57_whole_nets_made_in_order).prog 89) (kwd := []) K57.ob_eq
    (by kernel_rfl) (fun s => by kernel_rfl) K57.run (by kernel_rfl) (by kernel_rfl) (by kernel_rfl) (by rfl) (by first | assumption | decide +kernel) (by decide +kernel) ⟨rfl, rfl, rfl, rfl, rfl, by decide +kernel⟩ ?hw ?hc
  case hw => w_witness2
  case hc =>
    refine L2.walk_ofE (l := PySem.Challenge.rw_firstmade_k57_whole_nets_made_in_order) (n := 63) (k := 14) (x := "script") (CX := L2.CX0) rfl (by decide) (by kernel_rfl) ⟨rfl, by decide, by decide⟩ ?F (fun _ _ _ _ z => z)
    intro w mg fa h Y G hmg0
    obtain ⟨K, KX, c⟩ := Y
    have hmg : mg ("law" : PySem.Str) = some (.ref fa) := by
      have e : (HandSHeadRun.topDef (OpenLaw.row PySem.Challenge.rw_firstmade_k57_whole_nets_made_in_order).prog 89).name = ("law" : PySem.Str) := by kernel_rfl
      rw [← e]
      exact hmg0
    obtain ⟨fd, hb, hF⟩ := K57.facts (w := w) KX G hmg c
    exact ⟨K, fd, K57.spLaw K, KX, hb, fun H a ns hl _ hS => ⟨a, ns, rfl, hS, fun _ => rfl⟩, hF⟩
