import PyProof.Rows.All
import Wide.All
import OpenK.AllK
import Wide.FinOn
import HandS.ForMost
import HandS.Star
import HandS.Lambda
import HandS.Deep
import HandS.TupAny
import HandS.IsInst
import HandS.Zip
import HandS.Walk
import HandS.Defaults
import HandS.SlotsOwn
import PySem.Challenge.RW_vaultkeys_k96_whole_watches_beside_chang
import KE.SortData
import KE.SortKeyHeap
import HandS.TupSets
import HandS.SetFor
import KE.KLam
import HandS.Flow
import HandS.Style
import KE.KStateDown
import Lean
import HandS.More
import HandS.Words
import HandS.WordsExc
import HandS.Head0
import HandS.Head1
import HandS.Head2
import HandS.HeadEnd
import HandS.HeadHook1
import HandS.HeadHook2
import HandS.HeadHook3
import HandS.HeadHook4
import HandS.HeadWalk
set_option Elab.async false
set_option linter.all false
set_option maxRecDepth 100000
/-! Data that never change, over a part B of the abstract heap: what an expression comes to, as data. -/
namespace Vk
open PySem L2 StX

/-- the table of code objects of by_size (its place, the lambda's name) -/
abbrev Tb := Addr × Str
def NoT (o : HO) : Prop := ∀ ps, o ≠ .tbl ps
theorem noT_lst {xs : List V} : NoT (.lst xs) := fun _ z => nomatch z
theorem noT_tup {xs : List V} : NoT (.tup xs) := fun _ z => nomatch z
structure Sm (T : Tb) (H H' : Hp) : Prop where
  ext : LamX.ExtN H H'
  tab : LamX.TabS H T.1 T.2 → LamX.TabS H' T.1 T.2
theorem Sm.refl (T : Tb) (H : Hp) : Sm T H H := ⟨LamX.ExtN.refl H, fun h => h⟩
theorem Sm.trans {T : Tb} {H H1 H2 : Hp} (a : Sm T H H1) (b : Sm T H1 H2) : Sm T H H2 :=
  ⟨a.ext.trans b.ext, fun h => b.tab (a.tab h)⟩
theorem Sm.of {T : Tb} {H H' : Hp} (e : ∀ b o, H b = some o → H' b = some o) : Sm T H H' := ⟨LamX.ExtN.of e, fun h => h.ext e⟩
theorem Sm.laid {T : Tb} {H : Hp} {p : Addr} {o : HO} (n : H p = none) : Sm T H (upd H p o) := Sm.of fun b u e => by
  rw [upd_ne (ne_of_none e n)]; exact e
/-- a part of the heap that stands for ever -/
def Fz (B H : Hp) : Prop := ∀ a o, B a = some o → H a = some o ∧ NoT o
def Sub (B B' : Hp) : Prop := ∀ a o, B a = some o → B' a = some o
theorem Sub.refl (B : Hp) : Sub B B := fun _ _ h => h
theorem Sub.trans {B B1 B2 : Hp} (a : Sub B B1) (b : Sub B1 B2) : Sub B B2 := fun x o h => b x o (a x o h)
theorem Fz.sm {T : Tb} {B H H' : Hp} (f : Fz B H) (s : Sm T H H') : Fz B H' := fun a o h => ⟨s.ext a o (f a o h).1 (f a o h).2, (f a o h).2⟩
theorem Fz.sub {B B' H : Hp} (s : Sub B B') (f : Fz B' H) : Fz B H := fun a o h => f a o (s a o h)
theorem Fz.laid {B H : Hp} {p : Addr} {o : HO} (f : Fz B H) (n : B p = none) : Fz B (upd H p o) := fun a u h => by
  have : a ≠ p := ne_of_none h n
  rw [upd_ne this]; exact f a u h
theorem Fz.off {B H : Hp} (f : Fz B H) {p : Addr} (n : H p = none) : B p = none := by
  cases q : B p with
  | none => rfl
  | some o => have := (f p o q).1; rw [n] at this; cases this
/-- one step: from B within H to B' within H' -/
structure St (T : Tb) (B H B' H' : Hp) : Prop where
  sm : Sm T H H'
  sub : Sub B B'
  fz : Fz B' H'
  new : ∀ a o, B a = none → H a = some o → NoT o → B' a = none
theorem St.refl {T : Tb} {B H : Hp} (f : Fz B H) : St T B H B H := ⟨Sm.refl T H, Sub.refl B, f, fun _ _ h _ _ => h⟩
theorem St.trans {T : Tb} {B H B1 H1 B2 H2 : Hp} (a : St T B H B1 H1) (b : St T B1 H1 B2 H2) : St T B H B2 H2 :=
  ⟨a.sm.trans b.sm, a.sub.trans b.sub, b.fz, fun x o h e n => b.new x o (a.new x o h e n) (a.sm.ext x o e n) n⟩
/-- the larger part, again as small as it was -/
theorem St.back {T : Tb} {B H B' H' : Hp} (a : St T B H B' H') : St T B H B H' := ⟨a.sm, Sub.refl B, Fz.sub a.sub a.fz, fun _ _ h _ _ => h⟩
def uni (B B' : Hp) : Hp := fun a => match B a with
  | some o => some o
  | none => B' a
theorem uni_l {B B' : Hp} : Sub B (uni B B') := fun a o h => by unfold uni; rw [h]
theorem uni_r {B B' H : Hp} (f : Fz B H) (f' : Fz B' H) : Sub B' (uni B B') := fun a o h => by
  unfold uni
  cases q : B a with
  | none => exact h
  | some u =>
    have e1 := (f a u q).1
    have e2 := (f' a o h).1
    rw [e1] at e2; exact e2
theorem uni_fz {B B' H : Hp} (f : Fz B H) (f' : Fz B' H) : Fz (uni B B') H := fun a o h => by
  unfold uni at h
  cases q : B a with
  | none => rw [q] at h; exact f' a o h
  | some z => rw [q] at h; cases h; exact f a _ q
theorem uni_none {B B' : Hp} {a : Addr} (h : B a = none) (h' : B' a = none) : uni B B' a = none := by unfold uni; rw [h]; exact h'

end Vk
namespace L2
open PySem Vk
section
variable {K : PySem.W.Frag} {B B' : Hp}
theorem sqL_sub (s : Sub B B') {a : Addr} {xs : List V} (h : SqL K B a xs) : SqL K B' a xs := by
  rcases h with (h | ⟨o, h⟩) | h
  · exact .inl (.inl (s _ _ h))
  · exact .inl (.inr ⟨o, s _ _ h⟩)
  · exact .inr h
theorem sqT_sub (s : Sub B B') {a : Addr} {xs : List V} (h : SqT K B a xs) : SqT K B' a xs := by
  rcases h with (h | ⟨o, h⟩) | h
  · exact .inl (.inl (s _ _ h))
  · exact .inl (.inr ⟨o, s _ _ h⟩)
  · exact .inr h
mutual
theorem Dp.sub (s : Sub B B') : ∀ (d : PyData) (v : V), Dp K B v d → Dp K B' v d
  | _, _, .non => .non
  | _, _, .bl b => .bl b
  | _, _, .int i => .int i
  | _, _, .str x => .str x
  | _, _, .lst h t => .lst (sqL_sub s h) (DpAll.sub s _ _ t)
  | _, _, .tup h t => .tup (sqT_sub s h) (DpAll.sub s _ _ t)
theorem DpAll.sub (s : Sub B B') : ∀ (ds : List PyData) (vs : List V), DpAll K B vs ds → DpAll K B' vs ds
  | _, _, .nil => .nil
  | _, _, .cons h t => .cons (Dp.sub s _ _ h) (DpAll.sub s _ _ t)
end
theorem fz_sub {H : Hp} (f : Fz B H) : Sub B H := fun a o h => (f a o h).1
theorem DpAll.length : ∀ {vs : List V} {ds : List PyData}, DpAll K B vs ds → vs.length = ds.length
  | _, _, .nil => rfl
  | _, _, .cons _ t => by rw [List.length_cons, List.length_cons, DpAll.length t]
theorem DpAll.get : ∀ {vs : List V} {ds : List PyData} {i : Nat} {v : V}, DpAll K B vs ds → vs[i]? = some v → ∃ d, ds[i]? = some d ∧ Dp K B v d
  | _, _, _, _, .nil, e => by simp at e
  | _, _, 0, _, .cons h _, e => by simp at e; subst e; exact ⟨_, rfl, h⟩
  | _, _, i + 1, _, .cons _ t, e => by
    obtain ⟨d, h1, h2⟩ := DpAll.get (i := i) t (by simpa using e)
    exact ⟨d, by simpa using h1, h2⟩
theorem DpAll.getD : ∀ {vs : List V} {ds : List PyData} {i : Nat} {d : PyData}, DpAll K B vs ds → ds[i]? = some d → ∃ v, vs[i]? = some v ∧ Dp K B v d
  | _, _, _, _, .nil, e => by simp at e
  | _, _, 0, _, .cons h _, e => by simp at e; subst e; exact ⟨_, rfl, h⟩
  | _, _, i + 1, _, .cons _ t, e => by
    obtain ⟨d, h1, h2⟩ := DpAll.getD (i := i) t (by simpa using e)
    exact ⟨d, by simpa using h1, h2⟩
theorem DpAll.append : ∀ {vs ws : List V} {ds es : List PyData}, DpAll K B vs ds → DpAll K B ws es → DpAll K B (vs ++ ws) (ds ++ es)
  | _, _, _, _, .nil, s => s
  | _, _, _, _, .cons h t, s => .cons h (DpAll.append t s)
theorem DpAll.take : ∀ {vs : List V} {ds : List PyData} (n : Nat), DpAll K B vs ds → DpAll K B (vs.take n) (ds.take n)
  | _, _, 0, _ => .nil
  | _, _, _ + 1, .nil => .nil
  | _, _, n + 1, .cons r t => .cons r (DpAll.take n t)
theorem DpAll.drop : ∀ {vs : List V} {ds : List PyData} (n : Nat), DpAll K B vs ds → DpAll K B (vs.drop n) (ds.drop n)
  | _, _, 0, r => r
  | _, _, _ + 1, .nil => .nil
  | _, _, n + 1, .cons _ t => DpAll.drop n t
theorem DpAll.strs : ∀ (ss : List Str) {vs : List V}, DpAll K B vs (ss.map .str) → vs = ss.map .str
  | [], _, h => by cases h; rfl
  | s :: ss, _, h => by
    cases h with
    | cons h t =>
      cases h
      rw [DpAll.strs ss t]; rfl
theorem DpAll.ofStrs : ∀ (ss : List Str), DpAll K B (ss.map .str) (ss.map .str)
  | [] => .nil
  | s :: ss => .cons (.str s) (DpAll.ofStrs ss)
theorem DpAll.bls : ∀ (bs : List Bool) {vs : List V}, DpAll K B vs (bs.map .bool) → vs = bs.map .bl
  | [], _, h => by cases h; rfl
  | s :: ss, _, h => by
    cases h with
    | cons h t =>
      cases h
      rw [DpAll.bls ss t]; rfl
/-- a new list, a new tuple of known things -/
theorem Dp.newL {p : Addr} {xs : List V} {ds : List PyData} (n : B p = none) (h : DpAll K B xs ds) : Dp K (upd B p (.lst xs)) (.ref p) (.list ds) :=
  .lst (.inl (.inl upd_same)) (DpAll.sub (fun a o e => by rw [upd_ne (ne_of_none e n)]; exact e) _ _ h)
theorem Dp.newT {p : Addr} {xs : List V} {ds : List PyData} (n : B p = none) (h : DpAll K B xs ds) : Dp K (upd B p (.tup xs)) (.ref p) (.tuple ds) :=
  .tup (.inl (.inl upd_same)) (DpAll.sub (fun a o e => by rw [upd_ne (ne_of_none e n)]; exact e) _ _ h)
end
end L2
namespace Vk
open PySem L2 StX
/-- a new object is laid and known -/
theorem St.laid {T : Tb} {B H : Hp} {p : Addr} {o : HO} (f : Fz B H) (n : H p = none) (no : NoT o) : St T B H (upd B p o) (upd H p o) := by
  have nB := f.off n
  refine ⟨Sm.laid n, fun a u e => by rw [upd_ne (ne_of_none e nB)]; exact e, fun a u e => ?_, fun a u h z _ => ?_⟩
  · by_cases q : a = p
    · rw [q, upd_same] at e ⊢; cases e; exact ⟨rfl, no⟩
    · rw [upd_ne q] at e ⊢; exact f a u e
  · have : a ≠ p := ne_of_none z n
    rw [upd_ne this]; exact h
/-- a new object is laid that may still change -/
theorem St.work {T : Tb} {B H : Hp} {p : Addr} {o : HO} (f : Fz B H) (n : H p = none) : St T B H B (upd H p o) :=
  ⟨Sm.laid n, Sub.refl B, f.laid (f.off n), fun _ _ h _ _ => h⟩
/-- what stands at p outside of B changes -/
theorem Fz.mut {B H : Hp} {p : Addr} {o : HO} (f : Fz B H) (n : B p = none) : Fz B (upd H p o) := f.laid n

/-! ### what a reading comes to -/
section
variable (T : Tb) (K : PySem.W.Frag)
abbrev TOk (H : Hp) : Prop := LamX.TabS H T.1 T.2
def ED (te : TE) (σ : L2.St) (B : Hp) (d : PyData) : Prop := ∀ H, Fz B H → TOk T H → ∀ Q : VK, (∀ v B' H', St T B H B' H' → Dp K B' v d → Q v H') → te σ H Q
def EDA (ta : TA) (σ : L2.St) (B : Hp) (ds : List PyData) : Prop := ∀ H, Fz B H → TOk T H → ∀ Q : List V → Hp → Prop, (∀ vs B' H', St T B H B' H' → DpAll K B' vs ds → Q vs H') → ta σ H Q
def ETT (tt : TT) (σ : L2.St) (B : Hp) (b : Bool) : Prop := ∀ H, Fz B H → TOk T H → ∀ Q : Bool → Hp → Prop, (∀ H', St T B H B H' → Q b H') → tt σ H Q
/-- a def's promise: arguments ds with A ds d, the answer d -/
def spD (A : List PyData → PyData → Prop) : Sp := fun vs H Q _ => ∃ B ds d, Fz B H ∧ TOk T H ∧ DpAll K B vs ds ∧ A ds d ∧ ∀ v B' H', St T B H B' H' → Dp K B' v d → Q v H'
end
section
variable {T : Tb} {K : PySem.W.Frag} {σ : L2.St} {B B' : Hp} {te ta tb tc : TE} {tt tu : TT} {d e : PyData} {ds : List PyData}
theorem St.ok {H H' : Hp} (s : St T B H B' H') (h : TOk T H) : TOk T H' := s.sm.tab h
/-- B and what B became from B1 -/
theorem St.join {B1 H B2 H2 : Hp} (f : Fz B1 H) (s : Sub B B1) (a : St T B H B2 H2) : St T B1 H (uni B1 B2) H2 :=
  ⟨a.sm, uni_l, uni_fz (f.sm a.sm) a.fz, fun x o h e n => uni_none h (a.new x o (by
    cases q : B x with
    | none => rfl
    | some o => rw [s x o q] at h; cases h) e n)⟩
theorem ED.sub (s : Sub B B') (h : ED T K te σ B d) : ED T K te σ B' d := fun H f t Q q =>
  h H (f.sub s) t Q fun v B2 H2 a r => q v (uni B' B2) H2 (a.join f s) (Dp.sub (uni_r (f.sm a.sm) a.fz) _ _ r)
theorem EDA.sub {t : TA} (s : Sub B B') (h : EDA T K t σ B ds) : EDA T K t σ B' ds := fun H f tk Q q =>
  h H (f.sub s) tk Q fun v B2 H2 a r => q v (uni B' B2) H2 (a.join f s) (DpAll.sub (uni_r (f.sm a.sm) a.fz) _ _ r)
theorem ETT.sub {b : Bool} (s : Sub B B') (h : ETT T tt σ B b) : ETT T tt σ B' b := fun H f tk Q q =>
  h H (f.sub s) tk Q fun H2 a => q H2 ⟨a.sm, Sub.refl _, f.sm a.sm, fun _ _ h _ _ => h⟩
theorem ED.is (h : ED T K te σ B d) (q : d = e) : ED T K te σ B e := q ▸ h
theorem ETT.is {a b : Bool} (h : ETT T tt σ B a) (q : a = b) : ETT T tt σ B b := q ▸ h
/-! expressions -/
theorem ed_var {i : Nat} {v : V} (h : σ[i]? = some (some v)) (r : Dp K B v d) : ED T K (tVar i) σ B d := fun H f _ Q q => ⟨v, h, q v B H (St.refl f) r⟩
theorem ed_c {v : V} (r : Dp K B v d) : ED T K (tC v) σ B d := fun H f _ Q q => q v B H (St.refl f) r
theorem ed_str (x : Str) : ED T K (tC (.str x)) σ B (.str x) := ed_c (.str x)
theorem ed_int (i : Int) : ED T K (tC (.int i)) σ B (.int i) := ed_c (.int i)
theorem ed_bl (b : Bool) : ED T K (tC (.bl b)) σ B (.bool b) := ed_c (.bl b)
theorem ed_non : ED T K (tC .non) σ B .none := ed_c .non
theorem eda_nil : EDA T K tNil σ B [] := fun H f _ Q q => q [] B H (St.refl f) .nil
theorem eda_cons {t : TA} (h : ED T K te σ B d) (r : EDA T K t σ B ds) : EDA T K (tCons te t) σ B (d :: ds) := fun H f tk Q q =>
  h H f tk _ fun v B1 H1 s1 r1 => r.sub s1.sub H1 s1.fz (s1.ok tk) _ fun vs B2 H2 s2 r2 => q _ B2 H2 (s1.trans s2) (.cons (Dp.sub s2.sub _ _ r1) r2)
theorem dp_seq {v : V} (h : Dp K B v (.list ds) ∨ Dp K B v (.tuple ds)) : ∃ p xs, v = .ref p ∧ (SqT K B p xs ∨ SqL K B p xs) ∧ DpAll K B xs ds := by
  rcases h with h | h
  · cases h with
    | lst h t => exact ⟨_, _, rfl, .inr h, t⟩
  · cases h with
    | tup h t => exact ⟨_, _, rfl, .inl h, t⟩
/-- *x, .. -/
theorem eda_star {t : TA} {es : List PyData} (h : ED T K te σ B d) (hd : d = .list ds ∨ d = .tuple ds) (r : EDA T K t σ B es) : EDA T K (tStar K te t) σ B (ds ++ es) := fun H f tk Q q =>
  h H f tk _ fun v B1 H1 s1 r1 => by
    obtain ⟨p, xs, rfl, hx, ha⟩ := dp_seq (hd.imp (fun z => z ▸ r1) (fun z => z ▸ r1))
    refine ⟨p, xs, rfl, hx.imp (sqT_sub (fz_sub s1.fz)) (sqL_sub (fz_sub s1.fz)), ?_⟩
    exact r.sub s1.sub H1 s1.fz (s1.ok tk) _ fun vs B2 H2 s2 r2 => q _ B2 H2 (s1.trans s2) (DpAll.append (DpAll.sub s2.sub _ _ ha) r2)
theorem ed_tup {t : TA} (h : EDA T K t σ B ds) (hl : ds.length ≤ sizeLine) : ED T K (tTup t) σ B (.tuple ds) := fun H f tk Q q =>
  h H f tk _ fun vs B1 H1 s1 r1 => ⟨by rw [r1.length]; exact hl, fun p n => q _ _ _ (s1.trans (St.laid s1.fz n noT_tup)) (Dp.newT (s1.fz.off n) r1)⟩
theorem ed_lst {t : TA} (h : EDA T K t σ B ds) (hl : ds.length ≤ sizeLine) : ED T K (tLst t) σ B (.list ds) := fun H f tk Q q =>
  h H f tk _ fun vs B1 H1 s1 r1 => ⟨by rw [r1.length]; exact hl, fun p n => q _ _ _ (s1.trans (St.laid s1.fz n noT_lst)) (Dp.newL (s1.fz.off n) r1)⟩
theorem ed_call {A : List PyData → PyData → Prop} {E : XK} {t : TA} (h : EDA T K t σ B ds) (hA : A ds d) : ED T K (tCall (spD T K A) [] E t) σ B d := fun H f tk Q q =>
  h H f tk _ fun vs B1 H1 s1 r1 => ⟨B1, ds, d, s1.fz, s1.ok tk, by rw [List.append_nil]; exact r1, hA, fun v B2 H2 s2 r2 => q v B2 H2 (s1.trans s2) r2⟩
theorem dp_at {xs : List V} {i : Int} (r : DpAll K B xs ds) (h : atI ds i = some d) : ∃ v, atI xs i = some v ∧ Dp K B v d := by
  unfold atI at h ⊢
  rw [r.length]
  cases q : ixN ds.length i with
  | none => rw [q] at h; cases h
  | some j => rw [q] at h; exact r.getD h
theorem ed_ixT {i : Int} (h : ED T K ta σ B (.tuple ds)) (h2 : ED T K tb σ B (.int i)) (ha : atI ds i = some d) : ED T K (tOp (rIxT K) ta tb) σ B d := fun H f tk Q q =>
  h H f tk _ fun v B1 H1 s1 r1 => h2.sub s1.sub H1 s1.fz (s1.ok tk) _ fun w B2 H2 s2 r2 => by
    cases r2
    cases r1 with
    | tup hx t =>
      obtain ⟨u, e1, e2⟩ := dp_at t ha
      exact ⟨_, _, _, u, rfl, rfl, sqT_sub (fz_sub s2.fz) (sqT_sub s2.sub hx), e1, q u B2 H2 (s1.trans s2) (Dp.sub s2.sub _ _ e2)⟩
theorem ed_ixL {i : Int} (h : ED T K ta σ B (.list ds)) (h2 : ED T K tb σ B (.int i)) (ha : atI ds i = some d) : ED T K (tOp (rIxL K) ta tb) σ B d := fun H f tk Q q =>
  h H f tk _ fun v B1 H1 s1 r1 => h2.sub s1.sub H1 s1.fz (s1.ok tk) _ fun w B2 H2 s2 r2 => by
    cases r2
    cases r1 with
    | lst hx t =>
      obtain ⟨u, e1, e2⟩ := dp_at t ha
      exact ⟨_, _, _, u, rfl, rfl, sqL_sub (fz_sub s2.fz) (sqL_sub s2.sub hx), e1, q u B2 H2 (s1.trans s2) (Dp.sub s2.sub _ _ e2)⟩
/-- a two-place operation on data whose answer is a bool, none or an int -/
theorem ed_op {r : R2} {x y z : PyData} (h : ED T K ta σ B x) (h2 : ED T K tb σ B y)
    (hr : ∀ (B1 H1 : Hp) (v w : V) (Q : VK), Fz B1 H1 → Dp K B1 v x → Dp K B1 w y → (∀ u, Dp K B1 u z → Q u H1) → r v w H1 Q) : ED T K (tOp r ta tb) σ B z := fun H f tk Q q =>
  h H f tk _ fun v B1 H1 s1 r1 => h2.sub s1.sub H1 s1.fz (s1.ok tk) _ fun w B2 H2 s2 r2 =>
    hr B2 H2 v w Q s2.fz (Dp.sub s2.sub _ _ r1) r2 fun u ru => q u B2 H2 (s1.trans s2) ru
theorem ed_eqD {x y : PyData} (h : ED T K ta σ B x) (h2 : ED T K tb σ B y) (hx : SeqAt.shaped x = true) (hy : SeqAt.shaped y = true) : ED T K (tOp (rEqD K) ta tb) σ B (.bool (PyData.eqv x y)) :=
  ed_op h h2 fun B1 H1 v w Q f r1 r2 q => ⟨x, y, Dp.sub (fz_sub f) _ _ r1, Dp.sub (fz_sub f) _ _ r2, hx, hy, q _ (.bl _)⟩
theorem ed_neD {x y : PyData} (h : ED T K ta σ B x) (h2 : ED T K tb σ B y) (hx : SeqAt.shaped x = true) (hy : SeqAt.shaped y = true) : ED T K (tOp (rNeD K) ta tb) σ B (.bool (!PyData.eqv x y)) :=
  ed_op h h2 fun B1 H1 v w Q f r1 r2 q => ⟨x, y, Dp.sub (fz_sub f) _ _ r1, Dp.sub (fz_sub f) _ _ r2, hx, hy, q _ (.bl _)⟩
theorem eqV_str {a b : Str} : eqV (.str a) (.str b) = decide (a = b) := by
  simp [eqV, Bool.beq_eq_decide_eq]
theorem inV_strs (x : Str) (ss : List Str) : inV (.str x) (ss.map .str) = decide (x ∈ ss) := by
  unfold inV
  induction ss with
  | nil => simp
  | cons s ss ih =>
    rw [List.map_cons, List.any_cons, ih, eqV_str]
    by_cases h : s = x
    · simp [h]
    · simp [h, Ne.symm h]
/-- x in ss, x not in ss: texts -/
theorem ed_in {neg : Bool} {x : Str} {ss : List Str} {y : PyData} (h : ED T K ta σ B (.str x)) (h2 : ED T K tb σ B y) (hy : y = .list (ss.map .str) ∨ y = .tuple (ss.map .str)) :
    ED T K (tOp (rIn K neg) ta tb) σ B (.bool (if neg then !decide (x ∈ ss) else decide (x ∈ ss))) :=
  ed_op h h2 fun B1 H1 v w Q f r1 r2 q => by
    cases r1
    obtain ⟨p, xs, rfl, hx, ha⟩ := dp_seq (hy.imp (fun z => z ▸ r2) (fun z => z ▸ r2))
    obtain rfl := DpAll.strs ss ha
    refine ⟨p, _, rfl, (hx.imp (sqT_sub (fz_sub f)) (sqL_sub (fz_sub f))).symm, rfl, ?_, ?_⟩
    · rw [List.all_eq_true]; intro z hz; obtain ⟨s, _, rfl⟩ := List.mem_map.mp hz; rfl
    · rw [inV_strs]; exact q _ (.bl _)
theorem ed_notInD {x : PyData} (h : ED T K ta σ B x) (h2 : ED T K tb σ B (.list ds)) (hx : SeqAt.shaped x = true) (hy : SeqAt.shaped (.list ds) = true) :
    ED T K (tOp (rNotInD K) ta tb) σ B (.bool (!ds.any fun z => PyData.eqv z x)) :=
  ed_op h h2 fun B1 H1 v w Q f r1 r2 q => ⟨x, ds, Dp.sub (fz_sub f) _ _ r1, Dp.sub (fz_sub f) _ _ r2, hx, hy, q _ (.bl _)⟩
/-! tests -/
theorem et_test {b : Bool} (h : ED T K te σ B (.bool b)) : ETT T (tTest te) σ B b := fun H f tk Q q => h H f tk _ fun v B1 H1 s r => by
  cases r; exact ⟨b, rfl, q H1 s.back⟩
theorem et_B {b : Bool} (h : ED T K te σ B (.bool b)) : ETT T (tB te) σ B b := fun H f tk Q q => h H f tk _ fun v B1 H1 s r => by
  cases r; exact ⟨b, rfl, q H1 s.back⟩
theorem et_not {a : Bool} (h : ETT T tt σ B a) : ETT T (tNot tt) σ B (!a) := fun H f tk Q q => h H f tk _ fun H1 s => q H1 s
theorem et_and {a b : Bool} (h : ETT T tt σ B a) (h2 : a = true → ETT T tu σ B b) : ETT T (tAnd tt tu) σ B (a && b) := fun H f tk Q q => h H f tk _ fun H1 s => by
  cases a with
  | true => exact h2 rfl H1 s.fz (s.ok tk) Q fun H2 s2 => q H2 (s.trans s2)
  | false => exact q H1 s
theorem et_or {a b : Bool} (h : ETT T tt σ B a) (h2 : a = false → ETT T tu σ B b) : ETT T (tOr tt tu) σ B (a || b) := fun H f tk Q q => h H f tk _ fun H1 s => by
  cases a with
  | true => exact q H1 s
  | false => exact h2 rfl H1 s.fz (s.ok tk) Q fun H2 s2 => q H2 (s.trans s2)
theorem ed_andV {a b : Bool} (h : ED T K ta σ B (.bool a)) (h2 : a = true → ED T K tb σ B (.bool b)) : ED T K (tAndV ta tb) σ B (.bool (a && b)) := fun H f tk Q q => h H f tk _ fun v B1 H1 s r => by
  cases r
  refine ⟨a, rfl, ?_⟩
  cases a with
  | true => exact (h2 rfl).sub s.sub H1 s.fz (s.ok tk) Q fun v B2 H2 s2 r2 => q v B2 H2 (s.trans s2) r2
  | false => exact q _ B1 H1 s (.bl false)
theorem ed_orV {a b : Bool} (h : ED T K ta σ B (.bool a)) (h2 : a = false → ED T K tb σ B (.bool b)) : ED T K (tOrV ta tb) σ B (.bool (a || b)) := fun H f tk Q q => h H f tk _ fun v B1 H1 s r => by
  cases r
  refine ⟨a, rfl, ?_⟩
  cases a with
  | true => exact q _ B1 H1 s (.bl true)
  | false => exact (h2 rfl).sub s.sub H1 s.fz (s.ok tk) Q fun v B2 H2 s2 r2 => q v B2 H2 (s.trans s2) r2
theorem ed_notV {a : Bool} (h : ED T K ta σ B (.bool a)) : ED T K (tNotV ta) σ B (.bool (!a)) := fun H f tk Q q => h H f tk _ fun v B1 H1 s r => by
  cases r; exact ⟨a, rfl, q _ B1 H1 s (.bl _)⟩
theorem ed_if {b : Bool} (h : ETT T tt σ B b) (h1 : b = true → ED T K ta σ B d) (h2 : b = false → ED T K tb σ B d) : ED T K (tIf tt ta tb) σ B d := fun H f tk Q q => h H f tk _ fun H1 s => by
  cases b with
  | true => exact h1 rfl H1 s.fz (s.ok tk) Q fun v B2 H2 s2 r2 => q v B2 H2 (s.trans s2) r2
  | false => exact h2 rfl H1 s.fz (s.ok tk) Q fun v B2 H2 s2 r2 => q v B2 H2 (s.trans s2) r2
/-! built-in functions -/
/-- a built-in whose answer is new or plain -/
theorem ed_cb {r : List V → Hp → VK → Prop} {t : TA} (h : EDA T K t σ B ds)
    (hr : ∀ (B1 H1 : Hp) (vs : List V) (Q : VK), Fz B1 H1 → TOk T H1 → DpAll K B1 vs ds → (∀ v B2 H2, St T B1 H1 B2 H2 → Dp K B2 v d → Q v H2) → r vs H1 Q) : ED T K (tCB r t) σ B d := fun H f tk Q q =>
  h H f tk _ fun vs B1 H1 s1 r1 => hr B1 H1 vs Q s1.fz (s1.ok tk) r1 fun v B2 H2 s2 r2 => q v B2 H2 (s1.trans s2) r2
theorem dpAll1 {vs : List V} (h : DpAll K B vs [d]) : ∃ v, vs = [v] ∧ Dp K B v d := by
  cases h with
  | cons h t => cases t; exact ⟨_, rfl, h⟩
theorem ed_any {bs : List Bool} (h : ED T K te σ B (.list (bs.map .bool))) : ED T K (tCB (rAny K) (tCons te tNil)) σ B (.bool (bs.any id)) :=
  ed_cb (eda_cons h eda_nil) fun B1 H1 vs Q f tk r q => by
    obtain ⟨v, rfl, w⟩ := dpAll1 r
    cases w with
    | lst hx t =>
      obtain rfl := DpAll.bls bs t
      exact ⟨_, bs, rfl, sqL_sub (fz_sub f) hx, q _ B1 H1 (St.refl f) (.bl _)⟩
theorem ed_all {bs : List Bool} (h : ED T K te σ B (.list (bs.map .bool))) : ED T K (tCB (rAll K) (tCons te tNil)) σ B (.bool (bs.all id)) :=
  ed_cb (eda_cons h eda_nil) fun B1 H1 vs Q f tk r q => by
    obtain ⟨v, rfl, w⟩ := dpAll1 r
    cases w with
    | lst hx t =>
      obtain rfl := DpAll.bls bs t
      exact ⟨_, bs, rfl, sqL_sub (fz_sub f) hx, q _ B1 H1 (St.refl f) (.bl _)⟩
abbrev rTupOf (K : PySem.W.Frag) : List V → Hp → VK → Prop := fun xs H Q => ∃ p ys, xs = [.ref p] ∧ ((SqL K H p ys ∧ ∀ l, H l = none → Q (.ref l) (upd H l (.tup ys))) ∨ (SqT K H p ys ∧ Q (.ref p) H))
abbrev rLstOf (K : PySem.W.Frag) : List V → Hp → VK → Prop := fun xs H Q => ∃ p ys, xs = [.ref p] ∧ (SqL K H p ys ∨ SqT K H p ys) ∧ ∀ l, H l = none → Q (.ref l) (upd H l (.lst ys))
abbrev rLenOf (K : PySem.W.Frag) : List V → Hp → VK → Prop := fun xs H Q => ∃ p ys, xs = [.ref p] ∧ (SqL K H p ys ∨ SqT K H p ys) ∧ Q (.int ys.length) H
theorem ed_tupleOf (h : ED T K te σ B d) (hd : d = .list ds ∨ d = .tuple ds) : ED T K (tCB (rTupOf K) (tCons te tNil)) σ B (.tuple ds) :=
  ed_cb (eda_cons h eda_nil) fun B1 H1 vs Q f tk r q => by
    obtain ⟨v, rfl, w⟩ := dpAll1 r
    rcases hd with rfl | rfl
    · cases w with
      | lst hx t => exact ⟨_, _, rfl, .inl ⟨sqL_sub (fz_sub f) hx, fun l n => q _ _ _ (St.laid f n noT_tup) (Dp.newT (f.off n) t)⟩⟩
    · cases w with
      | tup hx t => exact ⟨_, _, rfl, .inr ⟨sqT_sub (fz_sub f) hx, q _ _ _ (St.refl f) (.tup hx t)⟩⟩
theorem ed_listOf (h : ED T K te σ B d) (hd : d = .list ds ∨ d = .tuple ds) : ED T K (tCB (rLstOf K) (tCons te tNil)) σ B (.list ds) :=
  ed_cb (eda_cons h eda_nil) fun B1 H1 vs Q f tk r q => by
    obtain ⟨v, rfl, w⟩ := dpAll1 r
    obtain ⟨p, xs, rfl, hx, ha⟩ := dp_seq (hd.imp (fun z => z ▸ w) (fun z => z ▸ w))
    exact ⟨p, xs, rfl, (hx.imp (sqT_sub (fz_sub f)) (sqL_sub (fz_sub f))).symm, fun l n => q _ _ _ (St.laid f n noT_lst) (Dp.newL (f.off n) ha)⟩
theorem ed_len (h : ED T K te σ B d) (hd : d = .list ds ∨ d = .tuple ds) : ED T K (tCB (rLenOf K) (tCons te tNil)) σ B (.int ds.length) :=
  ed_cb (eda_cons h eda_nil) fun B1 H1 vs Q f tk r q => by
    obtain ⟨v, rfl, w⟩ := dpAll1 r
    obtain ⟨p, xs, rfl, hx, ha⟩ := dp_seq (hd.imp (fun z => z ▸ w) (fun z => z ▸ w))
    refine ⟨p, xs, rfl, (hx.imp (sqT_sub (fz_sub f)) (sqL_sub (fz_sub f))).symm, ?_⟩
    rw [ha.length]
    exact q _ B1 H1 (St.refl f) (.int _)
/-! statements -/
variable {D : Ends} {H : Hp} {t u : TS}
theorem sd_asg {i : Nat} (f : Fz B H) (tk : TOk T H) (h : ED T K te σ B d) (k : ∀ v B' H', St T B H B' H' → Dp K B' v d → D.nx (σ.set i (some v)) H') : tAsg te (gName i) D σ H :=
  h H f tk _ fun v B' H' s r => k v B' H' s r
theorem sd_ret (f : Fz B H) (tk : TOk T H) (h : ED T K te σ B d) (k : ∀ v B' H', St T B H B' H' → Dp K B' v d → D.rt v H') : tRet te D σ H :=
  h H f tk _ k
theorem sd_if {b : Bool} (f : Fz B H) (tk : TOk T H) (h : ETT T tt σ B b) (h1 : b = true → ∀ H', St T B H B H' → t D σ H') (h2 : b = false → ∀ H', St T B H B H' → u D σ H') : tIfS tt t u D σ H :=
  h H f tk _ fun H' s => by
    cases b with
    | true => exact h1 rfl H' s
    | false => exact h2 rfl H' s
end
end Vk

set_option Elab.async false
set_option linter.all false
set_option maxRecDepth 100000
/-! Comprehensions over data. -/
namespace Vk
open PySem L2 StX

/-- how long what is read can be -/
def Sz (K : PySem.W.Frag) (H : Hp) : Prop := ∀ a xs, SqL K H a xs ∨ SqT K H a xs → xs.length ≤ sizeLine
def tSz (K : PySem.W.Frag) (t : TE) : TE := fun σ H Q => t σ H fun v H1 => Sz K H1 → Q v H1
theorem sz_of {X : Cx} {pins : List (Addr × Obj)} {σ : L2.St} {H : Hp} {s : Shared} (I : Inv X pins σ H s) : Sz X.K H := fun a xs h => by
  rcases h with h | h
  · obtain ⟨_, _, _, z⟩ := I.list h; exact z
  · obtain ⟨_, _, _, z⟩ := I.tuple h; exact z
theorem pe_sz {X : Cx} {e : Expr} {t : TE} (h : PE X e t) : PE X e (tSz X.K t) := ⟨fun pins s σ H Q I hw =>
  thn (h.run pins s σ H _ I hw) fun u s1 ⟨v, H1, I1, r, q⟩ => ⟨v, H1, I1, r, q (sz_of I1)⟩⟩

section
variable {T : Tb} {K : PySem.W.Frag} {B B' H H' : Hp} {D : Addr} {acc ys : List V}
/-- a list in the making changes -/
theorem Sm.mut (s : Sm T H H') (n : H D = none) (h : H' D = some (.lst acc)) : Sm T H (upd H' D (.lst ys)) := by
  refine ⟨fun b o e no => ?_, fun tk => ?_⟩
  · rw [upd_ne (ne_of_none e n)]; exact s.ext b o e no
  · obtain ⟨ps, h1, h2, h3⟩ := s.tab tk
    refine ⟨ps, ?_, h2, fun pos cv hc => ?_⟩
    · rw [upd_ne (ne_of h1 h (fun z => nomatch z))]; exact h1
    · obtain ⟨c, e1, e2⟩ := h3 pos cv hc
      refine ⟨c, e1, ?_⟩
      rw [upd_ne (ne_of e2 h (fun z => by unfold LamX.CodeO at z; cases z))]; exact e2
theorem St.mut (s : St T B H B' H') (n : H D = none) (nB : B' D = none) (h : H' D = some (.lst acc)) : St T B H B' (upd H' D (.lst ys)) :=
  ⟨s.sm.mut n h, s.sub, s.fz.laid nB, s.new⟩
/-- a list in the making is done -/
theorem St.seal {xs : List V} (s : St T B H B' H') (n : H D = none) (nB : B' D = none) (h : H' D = some (.lst xs)) : St T B H (upd B' D (.lst xs)) H' := by
  refine ⟨s.sm, fun a o e => ?_, fun a o e => ?_, fun a o e z no => ?_⟩
  · have := s.sub a o e
    rw [upd_ne (ne_of_none this nB)]; exact this
  · by_cases q : a = D
    · rw [q, upd_same] at e; cases e; rw [q]; exact ⟨h, noT_lst⟩
    · rw [upd_ne q] at e; exact s.fz a o e
  · have : a ≠ D := ne_of_none z n
    rw [upd_ne this]; exact s.new a o e z no
/-- it stays as it is through a step -/
theorem St.keepL {B1 H1 : Hp} {o : HO} (s : St T B1 H1 B' H') (no : NoT o) (nB : B1 D = none) (h : H1 D = some o) : B' D = none ∧ H' D = some o :=
  ⟨s.new D _ nB h no, s.sm.ext D _ h no⟩
end
section
variable {T : Tb} {K : PySem.W.Frag} {σ : L2.St} {B : Hp} {tl te : TE} {tt : TT} {α : Type} {j : Nat} {vs : List Nat} {xs : List α} {enc : α → PyData}
theorem take_filter_map {β : Type} (p : α → Bool) (g : α → β) {i : Nat} {x : α} (h : xs[i]? = some x) :
    ((xs.take (i + 1)).filter p).map g = ((xs.take i).filter p).map g ++ (if p x = true then [g x] else []) := by
  rw [List.take_succ, h, List.filter_append, List.map_append]
  congr 1
  cases q : p x with
  | true => simp [q]
  | false => simp [q]
/-- the comprehension's word: the list at D has what the turns so far gave -/
def Cw (T : Tb) (K : PySem.W.Frag) (B H1 : Hp) (D : Addr) (done : Nat → List PyData) (i : Nat) (H' : Hp) : Prop :=
  ∃ B' acc, St T B H1 B' H' ∧ B' D = none ∧ H' D = some (.lst acc) ∧ DpAll K B' acc (done i)
theorem cw_start {H1 : Hp} {D : Addr} {done : Nat → List PyData} (f : Fz B H1) (n : H1 D = none) (h0 : done 0 = []) : Cw T K B H1 D done 0 (upd H1 D (.lst [])) := by
  have s := St.work (T := T) (o := .lst []) f n
  exact ⟨B, [], s, f.off n, upd_same, by rw [h0]; exact .nil⟩
theorem cw_done {H1 H' : Hp} {D : Addr} {done : Nat → List PyData} {i : Nat} {Q : VK} (n : H1 D = none) (c : Cw T K B H1 D done i H')
    (q : ∀ v B' H2, St T B H1 B' H2 → Dp K B' v (.list (done i)) → Q v H2) : Q (.ref D) H' := by
  obtain ⟨B', acc, s, nB, h, r⟩ := c
  exact q _ _ _ (s.seal n nB h) (Dp.newL nB r)
theorem cw_turn {H1 H' : Hp} {D : Addr} {done : Nat → List PyData} {i : Nat} {b : Bool} {d : PyData} {σ2 : L2.St} (tk0 : TOk T H1) (n : H1 D = none) (c : Cw T K B H1 D done i H') (hz : (done i).length < sizeLine)
    (ht : ∀ B', Sub B B' → Fz B' H' → ETT T tt σ2 B' b) (he : ∀ B', Sub B B' → b = true → ED T K te σ2 B' d) (hd : done (i + 1) = done i ++ (if b = true then [d] else [])) :
    tt σ2 H' fun b H3 => if b = true then te σ2 H3 fun y H4 => ∃ acc, H4 D = some (.lst acc) ∧ acc.length < sizeLine ∧ Cw T K B H1 D done (i + 1) (upd H4 D (.lst (acc ++ [y]))) else Cw T K B H1 D done (i + 1) H3 := by
  obtain ⟨B1, acc, s, nB, h, r⟩ := c
  have tk := s.ok tk0
  refine ht B1 s.sub s.fz H' s.fz tk _ fun H3 s3 => ?_
  obtain ⟨nB3, h3⟩ := s3.keepL noT_lst nB h
  cases b with
  | true =>
    show te σ2 H3 fun y H4 => ∃ acc, H4 D = some (.lst acc) ∧ acc.length < sizeLine ∧ Cw T K B H1 D done (i + 1) (upd H4 D (.lst (acc ++ [y])))
    refine he B1 s.sub rfl H3 s3.fz (s3.ok tk) _ fun y B4 H4 s4 r4 => ?_
    obtain ⟨nB4, h4⟩ := s4.keepL noT_lst nB h3
    have s5 := (s.trans s3).trans s4
    refine ⟨acc, h4, by rw [r.length]; exact hz, B4, _, s5.mut n nB4 h4, nB4, upd_same, ?_⟩
    rw [hd, if_pos rfl]
    exact DpAll.append (DpAll.sub s4.sub _ _ r) (.cons r4 .nil)
  | false =>
    show Cw T K B H1 D done (i + 1) H3
    refine ⟨B1, acc, s.trans s3, nB3, h3, ?_⟩
    rw [hd, if_neg (by decide), List.append_nil]
    exact r
/-- what is given by x of xs is taken by the test p, then g of it -/
theorem fm_len {β : Type} (p : α → Bool) (g : α → β) (i : Nat) : (((xs.take i).filter p).map g).length ≤ i := by
  rw [List.length_map]
  exact Nat.le_trans (List.length_filter_le _ _) (by rw [List.length_take]; exact Nat.min_le_left _ _)
theorem enc_at {zs : List V} {i : Nat} {v : V} (r : DpAll K B zs (xs.map enc)) (h : zs[i]? = some v) : ∃ x, xs[i]? = some x ∧ x ∈ xs ∧ Dp K B v (enc x) := by
  obtain ⟨d, e1, e2⟩ := r.get h
  rw [List.getElem?_map] at e1
  cases q : xs[i]? with
  | none => rw [q] at e1; cases e1
  | some x => rw [q] at e1; cases e1; exact ⟨x, rfl, List.mem_of_getElem? q, e2⟩
variable (p : α → Bool) (g : α → PyData)
theorem ed_lcL (h : ED T K tl σ B (.list (xs.map enc))) (hw : ∀ x, wipe ((wipe σ vs).set j (some x)) vs = wipe σ vs)
    (ht : ∀ x ∈ xs, ∀ v B1, Sub B B1 → Dp K B1 v (enc x) → ETT T tt ((wipe σ vs).set j (some v)) B1 (p x))
    (he : ∀ x ∈ xs, ∀ v B1, Sub B B1 → Dp K B1 v (enc x) → p x = true → ED T K te ((wipe σ vs).set j (some v)) B1 (g x)) :
    ED T K (tLc (iList K (tSz K tl)) (gName j) tt te vs) σ B (.list ((xs.filter p).map g)) := fun H f tk Q q =>
  h H f tk _ fun v B1 H1 s1 r1 hsz => by
    cases r1 with
    | @lst a zs _ hx t =>
      have hx1 := sqL_sub (fz_sub s1.fz) hx
      have el : zs.length = xs.length := by rw [t.length, List.length_map]
      have hl : xs.length ≤ sizeLine := by rw [← el]; exact hsz _ _ (.inl hx1)
      refine ⟨a, rfl, ⟨_, hx1⟩, fun D hD => ?_⟩
      refine lc_it (walk_list (K := K) (a := a) (xs := zs)) (Cw T K B1 H1 D fun i => ((xs.take i).filter p).map g) (cw_start s1.fz hD rfl) (fun i H' _ c => ?_) (fun i x H' H'' hi c y => ?_) (fun H' c => ?_)
      · obtain ⟨B', acc, s, _⟩ := c
        exact sqL_sub (fz_sub s.fz) (sqL_sub s.sub hx)
      · obtain ⟨rfl, hxi⟩ := y
        obtain ⟨x0, e1, e2, e3⟩ := enc_at t hxi
        refine ⟨hw x, cw_turn (b := p x0) (d := g x0) (s1.ok tk) hD c ?_ (fun B' sb fb => ?_) (fun B' sb hb => ?_) (take_filter_map p g e1)⟩
        · exact Nat.lt_of_le_of_lt (fm_len p g i) (Nat.lt_of_lt_of_le (List.getElem?_eq_some_iff.mp e1).1 hl)
        · exact ht x0 e2 x B' (s1.sub.trans sb) (Dp.sub sb _ _ e3)
        · exact he x0 e2 x B' (s1.sub.trans sb) (Dp.sub sb _ _ e3) hb
      · refine cw_done hD c fun v B' H2 s r => q v B' H2 (s1.trans s) ?_
        rw [el, List.take_length] at r
        exact r
theorem ed_lcT (h : ED T K tl σ B (.tuple (xs.map enc))) (hw : ∀ x, wipe ((wipe σ vs).set j (some x)) vs = wipe σ vs)
    (ht : ∀ x ∈ xs, ∀ v B1, Sub B B1 → Dp K B1 v (enc x) → ETT T tt ((wipe σ vs).set j (some v)) B1 (p x))
    (he : ∀ x ∈ xs, ∀ v B1, Sub B B1 → Dp K B1 v (enc x) → p x = true → ED T K te ((wipe σ vs).set j (some v)) B1 (g x)) :
    ED T K (tLc (iTup K (tSz K tl)) (gName j) tt te vs) σ B (.list ((xs.filter p).map g)) := fun H f tk Q q =>
  h H f tk _ fun v B1 H1 s1 r1 hsz => by
    cases r1 with
    | @tup a zs _ hx t =>
      have hx1 := sqT_sub (fz_sub s1.fz) hx
      have el : zs.length = xs.length := by rw [t.length, List.length_map]
      have hl : xs.length ≤ sizeLine := by rw [← el]; exact hsz _ _ (.inr hx1)
      refine ⟨a, rfl, ⟨_, hx1⟩, fun D hD => ?_⟩
      refine lc_it (walk_tup (K := K) (a := a) (xs := zs)) (Cw T K B1 H1 D fun i => ((xs.take i).filter p).map g) (cw_start s1.fz hD rfl) (fun i H' _ c => ?_) (fun i x H' H'' hi c y => ?_) (fun H' c => ?_)
      · obtain ⟨B', acc, s, _⟩ := c
        exact sqT_sub (fz_sub s.fz) (sqT_sub s.sub hx)
      · obtain ⟨rfl, hxi⟩ := y
        obtain ⟨x0, e1, e2, e3⟩ := enc_at t hxi
        refine ⟨hw x, cw_turn (b := p x0) (d := g x0) (s1.ok tk) hD c ?_ (fun B' sb fb => ?_) (fun B' sb hb => ?_) (take_filter_map p g e1)⟩
        · exact Nat.lt_of_le_of_lt (fm_len p g i) (Nat.lt_of_lt_of_le (List.getElem?_eq_some_iff.mp e1).1 hl)
        · exact ht x0 e2 x B' (s1.sub.trans sb) (Dp.sub sb _ _ e3)
        · exact he x0 e2 x B' (s1.sub.trans sb) (Dp.sub sb _ _ e3) hb
      · refine cw_done hD c fun v B' H2 s r => q v B' H2 (s1.trans s) ?_
        rw [el, List.take_length] at r
        exact r
theorem et_yes : ETT T tYes σ B true := fun H f _ Q q => q H (St.refl f)
/-! ### [.. for a, b in zip(xs, ys)], two lists, two tuples -/
variable {β : Type} {ys : List β} {enc2 : β → PyData} {ta tb : TE} {j2 : Nat}
theorem zip_at {i : Nat} {x : α} {y : β} (h1 : xs[i]? = some x) (h2 : ys[i]? = some y) : (xs.zip ys)[i]? = some (x, y) := by
  rw [List.getElem?_zip_eq_some]; exact ⟨h1, h2⟩
theorem walk_zipT {a b : Addr} {zs ws : List V} {n : Nat} (hn : n = min zs.length ws.length) : Walk (RZ.ItzT K a b) n (fun H => SqT K H a zs ∧ SqT K H b ws) (YPair (fun i => zs[i]?) (fun i => ws[i]?)) := by
  subst hn
  refine ⟨fun i _ hi q => ?_, fun _ q => ⟨zs, ws, q.1, q.2, by omega⟩, fun i H v H' _ q y => ?_⟩
  · have h1 : i < zs.length := by omega
    have h2 : i < ws.length := by omega
    exact ⟨zs, ws, zs[i], ws[i], q.1, q.2, by simp [h1], by simp [h2]⟩
  · obtain ⟨t, x, y, h1, h2, h3, h4, h5⟩ := y
    exact ⟨t, x, y, h1, h2, h3, h4 zs q.1, h5 ws q.2⟩
variable (pz : α × β → Bool) (gz : α × β → PyData)
/-- the target a, b -/
abbrev gPair (K : PySem.W.Frag) (j j2 : Nat) : TG := gTup K 2 (gCons (gName j) (gCons (gName j2) gNil))
theorem ed_lcZT (h : ED T K ta σ B (.tuple (xs.map enc))) (h2 : ED T K tb σ B (.tuple (ys.map enc2))) (hw : ∀ x y, wipe (((wipe σ vs).set j (some x)).set j2 (some y)) vs = wipe σ vs)
    (ht : ∀ z ∈ xs.zip ys, ∀ v u B1, Sub B B1 → Dp K B1 v (enc z.1) → Dp K B1 u (enc2 z.2) → ETT T tt (((wipe σ vs).set j (some v)).set j2 (some u)) B1 (pz z))
    (he : ∀ z ∈ xs.zip ys, ∀ v u B1, Sub B B1 → Dp K B1 v (enc z.1) → Dp K B1 u (enc2 z.2) → pz z = true → ED T K te (((wipe σ vs).set j (some v)).set j2 (some u)) B1 (gz z)) :
    ED T K (tLc (RZ.iZipA K (tCons ta (tCons (tSz K tb) tNil))) (gPair K j j2) tt te vs) σ B (.list (((xs.zip ys).filter pz).map gz)) := fun H f tk Q q =>
  h H f tk _ fun v B0 H0 s0 r0 => h2.sub s0.sub H0 s0.fz (s0.ok tk) _ fun u B1 H1 s1' r1 hsz => by
    have s1 := s0.trans s1'
    cases r0 with
    | @tup a zs _ hx t =>
    cases r1 with
    | @tup b ws _ hy t2 =>
      have hxB := sqT_sub s1'.sub hx
      have t := DpAll.sub s1'.sub _ _ t
      have hx1 := sqT_sub (fz_sub s1.fz) hxB
      have hy1 := sqT_sub (fz_sub s1.fz) hy
      have el : zs.length = xs.length := by rw [t.length, List.length_map]
      have el2 : ws.length = ys.length := by rw [t2.length, List.length_map]
      have hl : xs.length ≤ sizeLine := by rw [← el]; exact hsz _ _ (.inr hx1)
      refine ⟨a, b, _, _, rfl, .inr ⟨hx1, hy1, fun D hD => ?_⟩⟩
      refine lc_it (walk_zipT (K := K) (a := a) (b := b) (zs := zs) (ws := ws) rfl) (Cw T K B1 H1 D fun i => (((xs.zip ys).take i).filter pz).map gz) (cw_start s1.fz hD rfl) (fun i H' _ c => ?_) (fun i x H' H'' hi c y => ?_) (fun H' c => ?_)
      · obtain ⟨B', acc, s, _⟩ := c
        exact ⟨sqT_sub (fz_sub s.fz) (sqT_sub s.sub hxB), sqT_sub (fz_sub s.fz) (sqT_sub s.sub hy)⟩
      · obtain ⟨tp, x1, y1, rfl, nT, rfl, g1, g2⟩ := y
        obtain ⟨x0, e1, e2, e3⟩ := enc_at t g1
        obtain ⟨y0, e1', e2', e3'⟩ := enc_at t2 g2
        have ez := zip_at e1 e1'
        have c' : Cw T K B1 H1 D (fun i => (((xs.zip ys).take i).filter pz).map gz) i (upd H' tp (.tup [x1, y1])) := by
          obtain ⟨B', acc, s, nB, hD', r⟩ := c
          exact ⟨B', acc, s.trans (St.work s.fz nT), nB, by rw [upd_ne (ne_of_none hD' nT)]; exact hD', r⟩
        refine ⟨tp, [x1, y1], rfl, SqT.of upd_same, rfl, x1, [y1], rfl, y1, [], rfl, rfl, hw x1 y1, ?_⟩
        refine cw_turn (b := pz (x0, y0)) (d := gz (x0, y0)) (s1.ok tk) hD c' ?_ (fun B' sb fb => ?_) (fun B' sb hb => ?_) (take_filter_map pz gz ez)
        · exact Nat.lt_of_le_of_lt (fm_len pz gz i) (Nat.lt_of_lt_of_le (List.getElem?_eq_some_iff.mp e1).1 hl)
        · exact ht (x0, y0) (List.mem_of_getElem? ez) x1 y1 B' (s1.sub.trans sb) (Dp.sub sb _ _ e3) (Dp.sub sb _ _ e3')
        · exact he (x0, y0) (List.mem_of_getElem? ez) x1 y1 B' (s1.sub.trans sb) (Dp.sub sb _ _ e3) (Dp.sub sb _ _ e3') hb
      · refine cw_done hD c fun v B' H2 s r => q v B' H2 (s1.trans s) ?_
        rw [el, el2, ← List.length_zip, List.take_length] at r
        exact r
theorem ed_lcZL (h : ED T K ta σ B (.list (xs.map enc))) (h2 : ED T K tb σ B (.list (ys.map enc2))) (hw : ∀ x y, wipe (((wipe σ vs).set j (some x)).set j2 (some y)) vs = wipe σ vs)
    (ht : ∀ z ∈ xs.zip ys, ∀ v u B1, Sub B B1 → Dp K B1 v (enc z.1) → Dp K B1 u (enc2 z.2) → ETT T tt (((wipe σ vs).set j (some v)).set j2 (some u)) B1 (pz z))
    (he : ∀ z ∈ xs.zip ys, ∀ v u B1, Sub B B1 → Dp K B1 v (enc z.1) → Dp K B1 u (enc2 z.2) → pz z = true → ED T K te (((wipe σ vs).set j (some v)).set j2 (some u)) B1 (gz z)) :
    ED T K (tLc (RZ.iZipA K (tCons ta (tCons (tSz K tb) tNil))) (gPair K j j2) tt te vs) σ B (.list (((xs.zip ys).filter pz).map gz)) := fun H f tk Q q =>
  h H f tk _ fun v B0 H0 s0 r0 => h2.sub s0.sub H0 s0.fz (s0.ok tk) _ fun u B1 H1 s1' r1 hsz => by
    have s1 := s0.trans s1'
    cases r0 with
    | @lst a zs _ hx t =>
    cases r1 with
    | @lst b ws _ hy t2 =>
      have hxB := sqL_sub s1'.sub hx
      have t := DpAll.sub s1'.sub _ _ t
      have hx1 := sqL_sub (fz_sub s1.fz) hxB
      have hy1 := sqL_sub (fz_sub s1.fz) hy
      have el : zs.length = xs.length := by rw [t.length, List.length_map]
      have el2 : ws.length = ys.length := by rw [t2.length, List.length_map]
      have hl : xs.length ≤ sizeLine := by rw [← el]; exact hsz _ _ (.inl hx1)
      refine ⟨a, b, _, _, rfl, .inl ⟨hx1, hy1, fun D hD => ?_⟩⟩
      refine lc_it (walk_zip (K := K) (a := a) (b := b) (xs := zs) (ys := ws) rfl) (Cw T K B1 H1 D fun i => (((xs.zip ys).take i).filter pz).map gz) (cw_start s1.fz hD rfl) (fun i H' _ c => ?_) (fun i x H' H'' hi c y => ?_) (fun H' c => ?_)
      · obtain ⟨B', acc, s, _⟩ := c
        exact ⟨sqL_sub (fz_sub s.fz) (sqL_sub s.sub hxB), sqL_sub (fz_sub s.fz) (sqL_sub s.sub hy)⟩
      · obtain ⟨tp, x1, y1, rfl, nT, rfl, g1, g2⟩ := y
        obtain ⟨x0, e1, e2, e3⟩ := enc_at t g1
        obtain ⟨y0, e1', e2', e3'⟩ := enc_at t2 g2
        have ez := zip_at e1 e1'
        have c' : Cw T K B1 H1 D (fun i => (((xs.zip ys).take i).filter pz).map gz) i (upd H' tp (.tup [x1, y1])) := by
          obtain ⟨B', acc, s, nB, hD', r⟩ := c
          exact ⟨B', acc, s.trans (St.work s.fz nT), nB, by rw [upd_ne (ne_of_none hD' nT)]; exact hD', r⟩
        refine ⟨tp, [x1, y1], rfl, SqT.of upd_same, rfl, x1, [y1], rfl, y1, [], rfl, rfl, hw x1 y1, ?_⟩
        refine cw_turn (b := pz (x0, y0)) (d := gz (x0, y0)) (s1.ok tk) hD c' ?_ (fun B' sb fb => ?_) (fun B' sb hb => ?_) (take_filter_map pz gz ez)
        · exact Nat.lt_of_le_of_lt (fm_len pz gz i) (Nat.lt_of_lt_of_le (List.getElem?_eq_some_iff.mp e1).1 hl)
        · exact ht (x0, y0) (List.mem_of_getElem? ez) x1 y1 B' (s1.sub.trans sb) (Dp.sub sb _ _ e3) (Dp.sub sb _ _ e3')
        · exact he (x0, y0) (List.mem_of_getElem? ez) x1 y1 B' (s1.sub.trans sb) (Dp.sub sb _ _ e3) (Dp.sub sb _ _ e3') hb
      · refine cw_done hD c fun v B' H2 s r => q v B' H2 (s1.trans s) ?_
        rw [el, el2, ← List.length_zip, List.take_length] at r
        exact r
end
end Vk

set_option Elab.async false
set_option linter.all false
set_option maxRecDepth 100000
/-! The rules with the written part named (within a comprehension's block the reading must not name the block). -/
namespace Vk
open PySem L2 StX
section
variable {X : Cx} {K : PySem.W.Frag} (hK : X.K = K)
include hK
theorem kIn : OpR X (compareOp .In) (rIn K false) := hK ▸ op_in_seq
theorem kNin : OpR X (compareOp .NotIn) (rIn K true) := hK ▸ op_notIn_seq
theorem kEqD (hu : X.A.units + 64 < cLine) : OpR X (compareOp .Eq) (rEqD K) := hK ▸ op_eqD hu
theorem kNeD (hu : X.A.units + 64 < cLine) : OpR X (compareOp .NotEq) (rNeD K) := hK ▸ op_neD hu
theorem kInD (hu : X.A.units + 65 < cLine) : OpR X (compareOp .In) (rInD K) := hK ▸ op_inD hu
theorem kNinD (hu : X.A.units + 65 < cLine) : OpR X (compareOp .NotIn) (rNotInD K) := hK ▸ op_notInD hu
theorem kIxT : IxR X (rIxT K) := hK ▸ ix_tup
theorem kIxL : IxR X (rIxL K) := hK ▸ ix_list
theorem kSlT : SlR X (rSlA K) := hK ▸ sl_tupA
theorem kSlL : SlR X (rSlL K) := hK ▸ sl_list
theorem kCatT : OpR X (binaryOp .Add) (rCatA K) := hK ▸ op_catA
theorem kTuple : CallR X (.type "tuple") (rTupOf K) := hK ▸ call_tuple_of
theorem kList : CallR X (.type "list") (rLstOf K) := hK ▸ call_list_of
theorem kLen : CallR X (.builtin "len") (rLenOf K) := hK ▸ call_len_seq
theorem kAny (hc : X.calm = true) : CallR X (.builtin "any") (rAny K) := hK ▸ cr_any hc
theorem kAll (hc : X.calm = true) : CallR X (.builtin "all") (rAll K) := hK ▸ cr_all hc
theorem kStar {e : Expr} {es : List Expr} {te : TE} {t : TA} {p : Pos} (he : PE X e te) (hr : PA X es t) (hs : starEach (.Starred e p :: es) X.env = (true, eval e X.env) :: starEach es X.env := by rfl) : PA X (.Starred e p :: es) (tStar K te t) := hK ▸ pa_star he hr hs
theorem kSz {e : Expr} {t : TE} (h : PE X e t) : PE X e (tSz K t) := hK ▸ pe_sz h
theorem kPiL {tg l : Expr} {tl : TE} (hl : PE X l tl) : PI X tg l (iList K tl) := hK ▸ pi_list hl
theorem kPiT {tg l : Expr} {tl : TE} (hl : PE X l tl) : PI X tg l (iTup K tl) := hK ▸ pi_tup hl
theorem kPiZ {e e2 : Expr} {ta : TA} {p pos tpos : Pos} {elts : List Expr} {kk : Nat} (hg : Gl X "zip") (hm : X.mg "zip" = none) (ha : PA X [e, e2] ta)
    (hs : starEach [e, e2] X.env = (false, eval e X.env) :: starEach [e2] X.env := by rfl) (hpl : (backTo pos (starEach [e2] X.env)).any (·.1) = false := by rfl) :
    PI X (.Tuple elts kk tpos) (.Call (.Name "zip" p) [e, e2] [] pos) (RZ.iZipA K ta) := hK ▸ RZ.pi_zipA hg hm ha hs hpl
theorem kPiE {e : Expr} {ta : TA} {p pos tpos : Pos} {elts : List Expr} {kk : Nat} (hg : Gl X "enumerate") (hm : X.mg "enumerate" = none) (ha : PA X [e] ta) (hs : starEach [e] X.env = [(false, eval e X.env)] := by rfl) :
    PI X (.Tuple elts kk tpos) (.Call (.Name "enumerate" p) [e] [] pos) (iEnum K ta) := hK ▸ pi_enum hg hm ha hs
theorem kTupTg {es : List Expr} {k : Nat} {t : TGs} {n : Nat} {pos : Pos} (hc : X.calm = true) (h : PGs X es t) (hn : (assignEach es X.env).length = n := by rfl) (hst : (assignEach es X.env).findIdx? (·.1) = none := by rfl) : PG X (.Tuple es k pos) (gTup K n t) := by
  subst hK
  first
    | exact pg_tup hc h hn hst
    | exact pg_tup hc h hst hn
    | exact pg_tup hc h
end
end Vk

set_option Elab.async false
set_option linter.all false
set_option maxRecDepth 100000
set_option maxHeartbeats 4000000
/-! The places of the text, the scopes, what is known of the code (printed by gen.py). -/
namespace Vk
open PySem PySem.Spec PyProof.Rows L2
def topS (i : Nat) : Stmt := PySem.Challenge.pw_vaultkeys_k96_whole_watches_beside_chang.main.body.getD i (.Pass ⟨0, 0, 0, 0⟩)
abbrev s__wall : Stmt := topS 0
abbrev s_NoKey_init : Stmt := inClass (topS 3) 0
abbrev s_NoNumber_init : Stmt := inClass (topS 4) 0
abbrev s_OtherKeys_init : Stmt := inClass (topS 5) 0
abbrev s_NothingDone_init : Stmt := inClass (topS 6) 0
abbrev s_set_of : Stmt := topS 8
abbrev s_tupled : Stmt := topS 9
abbrev s_is_within : Stmt := topS 10
abbrev s_subsets : Stmt := topS 11
abbrev s_by_size : Stmt := topS 12
abbrev s_least_sets : Stmt := topS 13
abbrev s_keys_of : Stmt := topS 15
abbrev s_check_keys : Stmt := topS 16
abbrev s_check_same_keys : Stmt := topS 17
abbrev s_has_opener : Stmt := topS 18
abbrev s_least_vault : Stmt := topS 19
abbrev s_vault_of : Stmt := topS 20
abbrev s_opens : Stmt := topS 21
abbrev s_either : Stmt := topS 23
abbrev s_both : Stmt := topS 24
abbrev s_keys_named : Stmt := topS 32
abbrev s_check_edit : Stmt := topS 33
abbrev s_with_key_more : Stmt := topS 34
abbrev s_swapped : Stmt := topS 35
abbrev s_edited_openers : Stmt := topS 36
abbrev s_edited : Stmt := topS 37
abbrev s_Watch_init : Stmt := inClass (topS 38) 1
abbrev s_Watch_vault : Stmt := inClass (topS 38) 2
abbrev s_Watch_holders : Stmt := inClass (topS 38) 3
abbrev s_Watch_told : Stmt := inClass (topS 38) 4
abbrev s_Watch_len : Stmt := inClass (topS 38) 5
abbrev s_Watch_iter : Stmt := inClass (topS 38) 6
abbrev s_Watch_do : Stmt := inClass (topS 38) 7
abbrev s_Watch_back : Stmt := inClass (topS 38) 8
abbrev s_Watch_back_alone : Stmt := inClass (topS 38) 9
abbrev s_Watch_twin : Stmt := inClass (topS 38) 10
abbrev s_Watch_eq : Stmt := inClass (topS 38) 11
abbrev s_Watch_opens : Stmt := inClass (topS 38) 12
abbrev s_Watch_opened_by : Stmt := inClass (topS 38) 13
abbrev s_Watch_first_open : Stmt := inClass (topS 38) 14
abbrev s_Watch_ever_vault : Stmt := inClass (topS 38) 15
abbrev s_Watch_always_vault : Stmt := inClass (topS 38) 16
abbrev s_Watch_newly : Stmt := inClass (topS 38) 17
abbrev s_Watch_no_longer : Stmt := inClass (topS 38) 18
abbrev s_openers_of : Stmt := topS 40
abbrev s_new_openers : Stmt := topS 41
abbrev s_lost_openers : Stmt := topS 42
abbrev s_is_milder : Stmt := topS 43
abbrev s_handed : Stmt := topS 44
abbrev s_keys_with : Stmt := topS 45
abbrev s_group_opens : Stmt := topS 46
abbrev s_groups_that : Stmt := topS 47
abbrev s_new_groups : Stmt := topS 48
abbrev s_lost_groups : Stmt := topS 49
abbrev s_are_met : Stmt := topS 50
abbrev s__law_box : Stmt := topS 52
abbrev s__law_take : Stmt := topS 53
abbrev s__law_cells : Stmt := topS 54
abbrev s__law_of : Stmt := topS 55
abbrev s__law_same : Stmt := topS 56
abbrev s__law_pick : Stmt := topS 57
abbrev s__law_lots : Stmt := topS 58
abbrev s__law_least : Stmt := topS 59
abbrev s__law_names : Stmt := topS 60
abbrev s__law_vault : Stmt := topS 61
abbrev s__law_holders : Stmt := topS 62
abbrev s__law_edit : Stmt := topS 63
abbrev s__law_kit : Stmt := topS 64
abbrev s__law_state_right : Stmt := topS 65
abbrev s__law_case_right : Stmt := topS 66
abbrev s__law_by_hand_right : Stmt := topS 67
abbrev s__law_right : Stmt := topS 68
abbrev s_law : Stmt := topS 69
theorem sc_NoKey_init : FnScope ["self", "name"] ["self", "name"] (defScope s_NoKey_init) := ⟨rfl, rfl, rfl, by decide +kernel, rfl, by decide +kernel, by decide +kernel⟩
theorem sc_NoNumber_init : FnScope ["self", "number"] ["self", "number"] (defScope s_NoNumber_init) := ⟨rfl, rfl, rfl, by decide +kernel, rfl, by decide +kernel, by decide +kernel⟩
theorem sc_OtherKeys_init : FnScope ["self"] ["self"] (defScope s_OtherKeys_init) := ⟨rfl, rfl, rfl, by decide +kernel, rfl, by decide +kernel, by decide +kernel⟩
theorem sc_NothingDone_init : FnScope ["self"] ["self"] (defScope s_NothingDone_init) := ⟨rfl, rfl, rfl, by decide +kernel, rfl, by decide +kernel, by decide +kernel⟩
theorem sc_set_of : FnScope ["some"] ["some"] (defScope s_set_of) := ⟨rfl, rfl, rfl, by decide +kernel, rfl, by decide +kernel, by decide +kernel⟩
theorem sc_tupled : FnScope ["value", "part"] ["value"] (defScope s_tupled) := ⟨rfl, rfl, rfl, by decide +kernel, rfl, by decide +kernel, by decide +kernel⟩
theorem sc_is_within : FnScope ["some", "others", "own"] ["some", "others"] (defScope s_is_within) := ⟨rfl, rfl, rfl, by decide +kernel, rfl, by decide +kernel, by decide +kernel⟩
theorem sc_subsets : FnScope ["things", "found", "own", "lot"] ["things"] (defScope s_subsets) := ⟨rfl, rfl, rfl, by decide +kernel, rfl, by decide +kernel, by decide +kernel⟩
theorem sc_by_size : FnScope ["sets"] ["sets"] (defScope s_by_size) := ⟨rfl, rfl, rfl, by decide +kernel, rfl, by decide +kernel, by decide +kernel⟩
theorem sc_least_sets : FnScope ["sets", "found", "lot", "own"] ["sets"] (defScope s_least_sets) := ⟨rfl, rfl, rfl, by decide +kernel, rfl, by decide +kernel, by decide +kernel⟩
theorem sc_keys_of : FnScope ["vault"] ["vault"] (defScope s_keys_of) := ⟨rfl, rfl, rfl, by decide +kernel, rfl, by decide +kernel, by decide +kernel⟩
theorem sc_check_keys : FnScope ["vault", "names", "name"] ["vault", "names"] (defScope s_check_keys) := ⟨rfl, rfl, rfl, by decide +kernel, rfl, by decide +kernel, by decide +kernel⟩
theorem sc_check_same_keys : FnScope ["vault", "other"] ["vault", "other"] (defScope s_check_same_keys) := ⟨rfl, rfl, rfl, by decide +kernel, rfl, by decide +kernel, by decide +kernel⟩
theorem sc_has_opener : FnScope ["openers", "held", "own"] ["openers", "held"] (defScope s_has_opener) := ⟨rfl, rfl, rfl, by decide +kernel, rfl, by decide +kernel, by decide +kernel⟩
theorem sc_least_vault : FnScope ["keys", "sets", "own"] ["keys", "sets"] (defScope s_least_vault) := ⟨rfl, rfl, rfl, by decide +kernel, rfl, by decide +kernel, by decide +kernel⟩
theorem sc_vault_of : FnScope ["keys", "sets", "own", "name"] ["keys", "sets"] (defScope s_vault_of) := ⟨rfl, rfl, rfl, by decide +kernel, rfl, by decide +kernel, by decide +kernel⟩
theorem sc_opens : FnScope ["vault", "held"] ["vault", "held"] (defScope s_opens) := ⟨rfl, rfl, rfl, by decide +kernel, rfl, by decide +kernel, by decide +kernel⟩
theorem sc_either : FnScope ["vault", "other"] ["vault", "other"] (defScope s_either) := ⟨rfl, rfl, rfl, by decide +kernel, rfl, by decide +kernel, by decide +kernel⟩
theorem sc_both : FnScope ["vault", "other", "one", "far"] ["vault", "other"] (defScope s_both) := ⟨rfl, rfl, rfl, by decide +kernel, rfl, by decide +kernel, by decide +kernel⟩
theorem sc_keys_named : FnScope ["edit"] ["edit"] (defScope s_keys_named) := ⟨rfl, rfl, rfl, by decide +kernel, rfl, by decide +kernel, by decide +kernel⟩
theorem sc_check_edit : FnScope ["vault", "edit", "known", "name"] ["vault", "edit"] (defScope s_check_edit) := ⟨rfl, rfl, rfl, by decide +kernel, rfl, by decide +kernel, by decide +kernel⟩
theorem sc_with_key_more : FnScope ["sets", "some", "found", "own", "name"] ["sets", "some"] (defScope s_with_key_more) := ⟨rfl, rfl, rfl, by decide +kernel, rfl, by decide +kernel, by decide +kernel⟩
theorem sc_swapped : FnScope ["some", "one", "other", "table", "name"] ["some", "one", "other"] (defScope s_swapped) := ⟨rfl, rfl, rfl, by decide +kernel, rfl, by decide +kernel, by decide +kernel⟩
theorem sc_edited_openers : FnScope ["openers", "edit", "word", "first", "own", "name"] ["openers", "edit"] (defScope s_edited_openers) := ⟨rfl, rfl, rfl, by decide +kernel, rfl, by decide +kernel, by decide +kernel⟩
theorem sc_edited : FnScope ["vault", "holders", "edit", "keys", "openers", "found", "name", "own"] ["vault", "holders", "edit"] (defScope s_edited) := ⟨rfl, rfl, rfl, by decide +kernel, rfl, by decide +kernel, by decide +kernel⟩
theorem sc_Watch_init : FnScope ["self", "vault", "holders"] ["self", "vault", "holders"] (defScope s_Watch_init) := ⟨rfl, rfl, rfl, by decide +kernel, rfl, by decide +kernel, by decide +kernel⟩
theorem sc_Watch_vault : FnScope ["self"] ["self"] (defScope s_Watch_vault) := ⟨rfl, rfl, rfl, by decide +kernel, rfl, by decide +kernel, by decide +kernel⟩
theorem sc_Watch_holders : FnScope ["self"] ["self"] (defScope s_Watch_holders) := ⟨rfl, rfl, rfl, by decide +kernel, rfl, by decide +kernel, by decide +kernel⟩
theorem sc_Watch_told : FnScope ["self"] ["self"] (defScope s_Watch_told) := ⟨rfl, rfl, rfl, by decide +kernel, rfl, by decide +kernel, by decide +kernel⟩
theorem sc_Watch_len : FnScope ["self"] ["self"] (defScope s_Watch_len) := ⟨rfl, rfl, rfl, by decide +kernel, rfl, by decide +kernel, by decide +kernel⟩
theorem sc_Watch_iter : FnScope ["self"] ["self"] (defScope s_Watch_iter) := ⟨rfl, rfl, rfl, by decide +kernel, rfl, by decide +kernel, by decide +kernel⟩
theorem sc_Watch_do : FnScope ["self", "edit"] ["self", "edit"] (defScope s_Watch_do) := ⟨rfl, rfl, rfl, by decide +kernel, rfl, by decide +kernel, by decide +kernel⟩
theorem sc_Watch_back : FnScope ["self"] ["self"] (defScope s_Watch_back) := ⟨rfl, rfl, rfl, by decide +kernel, rfl, by decide +kernel, by decide +kernel⟩
theorem sc_Watch_back_alone : FnScope ["self", "place", "rest", "edit"] ["self", "place"] (defScope s_Watch_back_alone) := ⟨rfl, rfl, rfl, by decide +kernel, rfl, by decide +kernel, by decide +kernel⟩
theorem sc_Watch_twin : FnScope ["self"] ["self"] (defScope s_Watch_twin) := ⟨rfl, rfl, rfl, by decide +kernel, rfl, by decide +kernel, by decide +kernel⟩
theorem sc_Watch_eq : FnScope ["self", "other"] ["self", "other"] (defScope s_Watch_eq) := ⟨rfl, rfl, rfl, by decide +kernel, rfl, by decide +kernel, by decide +kernel⟩
theorem sc_Watch_opens : FnScope ["self", "held"] ["self", "held"] (defScope s_Watch_opens) := ⟨rfl, rfl, rfl, by decide +kernel, rfl, by decide +kernel, by decide +kernel⟩
theorem sc_Watch_opened_by : FnScope ["self", "people", "key", "own"] ["self", "people"] (defScope s_Watch_opened_by) := ⟨rfl, rfl, rfl, by decide +kernel, rfl, by decide +kernel, by decide +kernel⟩
theorem sc_Watch_first_open : FnScope ["self", "held", "found", "number", "state"] ["self", "held"] (defScope s_Watch_first_open) := ⟨rfl, rfl, rfl, by decide +kernel, rfl, by decide +kernel, by decide +kernel⟩
theorem sc_Watch_ever_vault : FnScope ["self", "found", "vault", "holders"] ["self"] (defScope s_Watch_ever_vault) := ⟨rfl, rfl, rfl, by decide +kernel, rfl, by decide +kernel, by decide +kernel⟩
theorem sc_Watch_always_vault : FnScope ["self", "found", "vault", "holders"] ["self"] (defScope s_Watch_always_vault) := ⟨rfl, rfl, rfl, by decide +kernel, rfl, by decide +kernel, by decide +kernel⟩
theorem sc_Watch_newly : FnScope ["self", "own"] ["self"] (defScope s_Watch_newly) := ⟨rfl, rfl, rfl, by decide +kernel, rfl, by decide +kernel, by decide +kernel⟩
theorem sc_Watch_no_longer : FnScope ["self", "own"] ["self"] (defScope s_Watch_no_longer) := ⟨rfl, rfl, rfl, by decide +kernel, rfl, by decide +kernel, by decide +kernel⟩
theorem sc_openers_of : FnScope ["vault"] ["vault"] (defScope s_openers_of) := ⟨rfl, rfl, rfl, by decide +kernel, rfl, by decide +kernel, by decide +kernel⟩
theorem sc_new_openers : FnScope ["vault", "other", "own"] ["vault", "other"] (defScope s_new_openers) := ⟨rfl, rfl, rfl, by decide +kernel, rfl, by decide +kernel, by decide +kernel⟩
theorem sc_lost_openers : FnScope ["vault", "other"] ["vault", "other"] (defScope s_lost_openers) := ⟨rfl, rfl, rfl, by decide +kernel, rfl, by decide +kernel, by decide +kernel⟩
theorem sc_is_milder : FnScope ["vault", "other"] ["vault", "other"] (defScope s_is_milder) := ⟨rfl, rfl, rfl, by decide +kernel, rfl, by decide +kernel, by decide +kernel⟩
theorem sc_handed : FnScope ["vault", "holders", "key", "person", "keys", "own", "name"] ["vault", "holders", "key", "person"] (defScope s_handed) := ⟨rfl, rfl, rfl, by decide +kernel, rfl, by decide +kernel, by decide +kernel⟩
theorem sc_keys_with : FnScope ["vault", "holders", "group", "key", "person"] ["vault", "holders", "group"] (defScope s_keys_with) := ⟨rfl, rfl, rfl, by decide +kernel, rfl, by decide +kernel, by decide +kernel⟩
theorem sc_group_opens : FnScope ["vault", "holders", "group"] ["vault", "holders", "group"] (defScope s_group_opens) := ⟨rfl, rfl, rfl, by decide +kernel, rfl, by decide +kernel, by decide +kernel⟩
theorem sc_groups_that : FnScope ["vault", "holders", "later", "people", "found", "group"] ["vault", "holders", "later"] (defScope s_groups_that) := ⟨rfl, rfl, rfl, by decide +kernel, rfl, by decide +kernel, by decide +kernel⟩
theorem sc_new_groups : FnScope ["vault", "holders", "later"] ["vault", "holders", "later"] (defScope s_new_groups) := ⟨rfl, rfl, rfl, by decide +kernel, rfl, by decide +kernel, by decide +kernel⟩
theorem sc_lost_groups : FnScope ["vault", "holders", "later"] ["vault", "holders", "later"] (defScope s_lost_groups) := ⟨rfl, rfl, rfl, by decide +kernel, rfl, by decide +kernel, by decide +kernel⟩
theorem sc_are_met : FnScope ["vault", "holders", "wanted", "unwanted", "group"] ["vault", "holders", "wanted", "unwanted"] (defScope s_are_met) := ⟨rfl, rfl, rfl, by decide +kernel, rfl, by decide +kernel, by decide +kernel⟩
theorem sc__law_box : FnScope ["_law_script", "_law_k", "_law_cell"] ["_law_script", "_law_k"] (defScope s__law_box) := ⟨rfl, rfl, rfl, by decide +kernel, rfl, by decide +kernel, by decide +kernel⟩
theorem sc__law_take : FnScope ["_law_box_here", "_law_top_so", "_law_digit_so", "_law_once", "_law_far", "_law_again"] ["_law_box_here", "_law_top_so"] (defScope s__law_take) := ⟨rfl, rfl, rfl, by decide +kernel, rfl, by decide +kernel, by decide +kernel⟩
theorem sc__law_cells : FnScope ["_law_script", "_law_top_so", "_law_cells_so", "_law_k", "_law_cell", "_law_at_so"] ["_law_script", "_law_top_so"] (defScope s__law_cells) := ⟨rfl, rfl, rfl, by decide +kernel, rfl, by decide +kernel, by decide +kernel⟩
theorem sc__law_of : FnScope ["_law_box_here", "_law_goods_so"] ["_law_box_here", "_law_goods_so"] (defScope s__law_of) := ⟨rfl, rfl, rfl, by decide +kernel, rfl, by decide +kernel, by decide +kernel⟩
theorem sc__law_same : FnScope ["_law_got", "_law_due", "_law_mine_so", "_law_own"] ["_law_got", "_law_due"] (defScope s__law_same) := ⟨rfl, rfl, rfl, by decide +kernel, rfl, by decide +kernel, by decide +kernel⟩
theorem sc__law_pick : FnScope ["_law_box_here", "_law_goods_so", "_law_count_so", "_law_pool_so", "_law_found", "_law_turn"] ["_law_box_here", "_law_goods_so", "_law_count_so"] (defScope s__law_pick) := ⟨rfl, rfl, rfl, by decide +kernel, rfl, by decide +kernel, by decide +kernel⟩
theorem sc__law_lots : FnScope ["_law_names_so", "_law_found", "_law_name", "_law_own"] ["_law_names_so"] (defScope s__law_lots) := ⟨rfl, rfl, rfl, by decide +kernel, rfl, by decide +kernel, by decide +kernel⟩
theorem sc__law_least : FnScope ["_law_sets_so", "_law_pool_so", "_law_found", "_law_own", "_law_near_so", "_law_far", "_law_name"] ["_law_sets_so"] (defScope s__law_least) := ⟨rfl, rfl, rfl, by decide +kernel, rfl, by decide +kernel, by decide +kernel⟩
theorem sc__law_names : FnScope ["_law_box_here", "_law_count_so"] ["_law_box_here", "_law_count_so"] (defScope s__law_names) := ⟨rfl, rfl, rfl, by decide +kernel, rfl, by decide +kernel, by decide +kernel⟩
theorem sc__law_vault : FnScope ["_law_box_here", "_law_names_so", "_law_most_so", "_law_found", "_law_turn", "_law_name"] ["_law_box_here", "_law_names_so", "_law_most_so"] (defScope s__law_vault) := ⟨rfl, rfl, rfl, by decide +kernel, rfl, by decide +kernel, by decide +kernel⟩
theorem sc__law_holders : FnScope ["_law_box_here", "_law_names_so", "_law_name"] ["_law_box_here", "_law_names_so"] (defScope s__law_holders) := ⟨rfl, rfl, rfl, by decide +kernel, rfl, by decide +kernel, by decide +kernel⟩
theorem sc__law_edit : FnScope ["_law_box_here", "_law_names_so", "_law_word", "_law_near_so", "_law_far_so", "_law_name"] ["_law_box_here", "_law_names_so"] (defScope s__law_edit) := ⟨rfl, rfl, rfl, by decide +kernel, rfl, by decide +kernel, by decide +kernel⟩
theorem sc__law_kit : FnScope [] [] (defScope s__law_kit) := ⟨rfl, rfl, rfl, by decide +kernel, rfl, by decide +kernel, by decide +kernel⟩
theorem sc__law_state_right : FnScope ["_law_eyes", "_law_states_so", "_law_first_so", "_law_last_so", "_law_ever_so", "_law_always_so", "_law_own", "_law_got", "_law_due", "_law_group_so", "_law_mate_so", "_law_held_so", "_law_told"] ["_law_eyes", "_law_states_so"] (defScope s__law_state_right) := ⟨rfl, rfl, rfl, by decide +kernel, rfl, by decide +kernel, by decide +kernel⟩
theorem sc__law_case_right : FnScope ["_law_vault_so", "_law_mine_so", "_law_edits_so", "_law_places_so", "_law_eyes", "_law_states_so", "_law_told_so", "_law_edit_so", "_law_last_so", "_law_place_so"] ["_law_vault_so", "_law_mine_so", "_law_edits_so", "_law_places_so"] (defScope s__law_case_right) := ⟨rfl, rfl, rfl, by decide +kernel, rfl, by decide +kernel, by decide +kernel⟩
theorem sc__law_by_hand_right : FnScope ["_law_kit_so", "_law_mine_so", "_law_eyes", "_law_got", "_law_due", "_law_edits_so"] [] (defScope s__law_by_hand_right) := ⟨rfl, rfl, rfl, by decide +kernel, rfl, by decide +kernel, by decide +kernel⟩
theorem sc__law_right : FnScope ["_law_box_here", "_law_names_so", "_law_edits_so", "_law_places_so", "_law_turn"] ["_law_box_here"] (defScope s__law_right) := ⟨rfl, rfl, rfl, by decide +kernel, rfl, by decide +kernel, by decide +kernel⟩
theorem sc_law : FnScope ["_law_script", "_law_cells_here", "_law_k", "_law_box_here", "_law_turn"] ["_law_script"] (defScope s_law) := ⟨rfl, rfl, rfl, by decide +kernel, rfl, by decide +kernel, by decide +kernel⟩
/-- a def of the module -/
structure Fn1 (K : PySem.W.Frag) (mg : Str → Option Value) (x : Str) (st : Stmt) (ps : List Str) where
  f : Addr
  fd : FuncData
  F : FunD K x x (defArgs st) (defBody st) (defScope st) [] [] f fd
  g : mg x = some (.ref f)
  b : Binds K fd ps []
/-- a method -/
structure Mt1 (K : PySem.W.Frag) (mg : Str → Option Value) (C : Addr) (x q : Str) (st : Stmt) (ps : List Str) where
  f : Addr
  fd : FuncData
  F : FunD K x q (defArgs st) (defBody st) (defScope st) [] [] f fd
  b : Binds K fd ps []
/-- a property of the class, its getter at g -/
structure Prp (K : PySem.W.Frag) (C : Addr) (x : Str) (g : Addr) where
  p : Addr
  at_ : PySem.W.findIn K (.ref C) x = some (some (.ref p))
  get : PySem.W.specialIn K (.ref p) "__get__" = some (some (.builtin "property.__get__"))
  tk : PySem.W.takesIn K (.ref p) = some true
  rc : ∃ rest, PySem.W.recIn K p "property" = some (.ref g :: rest)
/-- what of the text stands behind the top -/
structure Code (K : PySem.W.Frag) (mg : Str → Option Value) where
  set_of : Fn1 K mg "set_of" s_set_of ["some"]
  tupled : Fn1 K mg "tupled" s_tupled ["value"]
  is_within : Fn1 K mg "is_within" s_is_within ["some", "others"]
  subsets : Fn1 K mg "subsets" s_subsets ["things"]
  by_size : Fn1 K mg "by_size" s_by_size ["sets"]
  least_sets : Fn1 K mg "least_sets" s_least_sets ["sets"]
  keys_of : Fn1 K mg "keys_of" s_keys_of ["vault"]
  check_keys : Fn1 K mg "check_keys" s_check_keys ["vault", "names"]
  check_same_keys : Fn1 K mg "check_same_keys" s_check_same_keys ["vault", "other"]
  has_opener : Fn1 K mg "has_opener" s_has_opener ["openers", "held"]
  least_vault : Fn1 K mg "least_vault" s_least_vault ["keys", "sets"]
  vault_of : Fn1 K mg "vault_of" s_vault_of ["keys", "sets"]
  opens : Fn1 K mg "opens" s_opens ["vault", "held"]
  either : Fn1 K mg "either" s_either ["vault", "other"]
  both : Fn1 K mg "both" s_both ["vault", "other"]
  keys_named : Fn1 K mg "keys_named" s_keys_named ["edit"]
  check_edit : Fn1 K mg "check_edit" s_check_edit ["vault", "edit"]
  with_key_more : Fn1 K mg "with_key_more" s_with_key_more ["sets", "some"]
  swapped : Fn1 K mg "swapped" s_swapped ["some", "one", "other"]
  edited_openers : Fn1 K mg "edited_openers" s_edited_openers ["openers", "edit"]
  edited : Fn1 K mg "edited" s_edited ["vault", "holders", "edit"]
  openers_of : Fn1 K mg "openers_of" s_openers_of ["vault"]
  new_openers : Fn1 K mg "new_openers" s_new_openers ["vault", "other"]
  lost_openers : Fn1 K mg "lost_openers" s_lost_openers ["vault", "other"]
  is_milder : Fn1 K mg "is_milder" s_is_milder ["vault", "other"]
  handed : Fn1 K mg "handed" s_handed ["vault", "holders", "key", "person"]
  keys_with : Fn1 K mg "keys_with" s_keys_with ["vault", "holders", "group"]
  group_opens : Fn1 K mg "group_opens" s_group_opens ["vault", "holders", "group"]
  groups_that : Fn1 K mg "groups_that" s_groups_that ["vault", "holders", "later"]
  new_groups : Fn1 K mg "new_groups" s_new_groups ["vault", "holders", "later"]
  lost_groups : Fn1 K mg "lost_groups" s_lost_groups ["vault", "holders", "later"]
  are_met : Fn1 K mg "are_met" s_are_met ["vault", "holders", "wanted", "unwanted"]
  _law_box : Fn1 K mg "_law_box" s__law_box ["_law_script", "_law_k"]
  _law_take : Fn1 K mg "_law_take" s__law_take ["_law_box_here", "_law_top_so"]
  _law_cells : Fn1 K mg "_law_cells" s__law_cells ["_law_script", "_law_top_so"]
  _law_of : Fn1 K mg "_law_of" s__law_of ["_law_box_here", "_law_goods_so"]
  _law_same : Fn1 K mg "_law_same" s__law_same ["_law_got", "_law_due"]
  _law_pick : Fn1 K mg "_law_pick" s__law_pick ["_law_box_here", "_law_goods_so", "_law_count_so"]
  _law_lots : Fn1 K mg "_law_lots" s__law_lots ["_law_names_so"]
  _law_least : Fn1 K mg "_law_least" s__law_least ["_law_sets_so"]
  _law_names : Fn1 K mg "_law_names" s__law_names ["_law_box_here", "_law_count_so"]
  _law_vault : Fn1 K mg "_law_vault" s__law_vault ["_law_box_here", "_law_names_so", "_law_most_so"]
  _law_holders : Fn1 K mg "_law_holders" s__law_holders ["_law_box_here", "_law_names_so"]
  _law_edit : Fn1 K mg "_law_edit" s__law_edit ["_law_box_here", "_law_names_so"]
  _law_kit : Fn1 K mg "_law_kit" s__law_kit []
  _law_state_right : Fn1 K mg "_law_state_right" s__law_state_right ["_law_eyes", "_law_states_so"]
  _law_case_right : Fn1 K mg "_law_case_right" s__law_case_right ["_law_vault_so", "_law_mine_so", "_law_edits_so", "_law_places_so"]
  _law_by_hand_right : Fn1 K mg "_law_by_hand_right" s__law_by_hand_right []
  _law_right : Fn1 K mg "_law_right" s__law_right ["_law_box_here"]
  law : Fn1 K mg "law" s_law ["_law_script"]
  gOV : mg "opens_vaults" = some (.ref opens.f)
  C : Addr
  gC : mg "Watch" = some (.ref C)
  cl : SlX.SCls K C
  Watch_init : Mt1 K mg C "__init__" "Watch.__init__" s_Watch_init ["self", "vault", "holders"]
  Watch_vault : Mt1 K mg C "vault" "Watch.vault" s_Watch_vault ["self"]
  Watch_holders : Mt1 K mg C "holders" "Watch.holders" s_Watch_holders ["self"]
  Watch_told : Mt1 K mg C "told" "Watch.told" s_Watch_told ["self"]
  Watch_do : Mt1 K mg C "do" "Watch.do" s_Watch_do ["self", "edit"]
  Watch_back_alone : Mt1 K mg C "back_alone" "Watch.back_alone" s_Watch_back_alone ["self", "place"]
  Watch_opened_by : Mt1 K mg C "opened_by" "Watch.opened_by" s_Watch_opened_by ["self", "people"]
  Watch_first_open : Mt1 K mg C "first_open" "Watch.first_open" s_Watch_first_open ["self", "held"]
  Watch_ever_vault : Mt1 K mg C "ever_vault" "Watch.ever_vault" s_Watch_ever_vault ["self"]
  Watch_always_vault : Mt1 K mg C "always_vault" "Watch.always_vault" s_Watch_always_vault ["self"]
  Watch_newly : Mt1 K mg C "newly" "Watch.newly" s_Watch_newly ["self"]
  Watch_no_longer : Mt1 K mg C "no_longer" "Watch.no_longer" s_Watch_no_longer ["self"]
  mkW : Mk K C Watch_init.f
  me_do : Meth K C "do" Watch_do.f
  me_back_alone : Meth K C "back_alone" Watch_back_alone.f
  me_opened_by : Meth K C "opened_by" Watch_opened_by.f
  me_first_open : Meth K C "first_open" Watch_first_open.f
  me_ever_vault : Meth K C "ever_vault" Watch_ever_vault.f
  me_always_vault : Meth K C "always_vault" Watch_always_vault.f
  me_newly : Meth K C "newly" Watch_newly.f
  me_no_longer : Meth K C "no_longer" Watch_no_longer.f
  pr_vault : Prp K C "vault" Watch_vault.f
  pr_holders : Prp K C "holders" Watch_holders.f
  pr_told : Prp K C "told" Watch_told.f
  p0 : Addr
  sl_own_states : SlX.Slot1 K C "own_states" p0 0
  p1 : Addr
  sl_own_told : SlX.Slot1 K C "own_told" p1 1
  m_abs : mg "abs" = none
  m_all : mg "all" = none
  m_any : mg "any" = none
  m_bool : mg "bool" = none
  m_enumerate : mg "enumerate" = none
  m_int : mg "int" = none
  m_isinstance : mg "isinstance" = none
  m_len : mg "len" = none
  m_list : mg "list" = none
  m_min : mg "min" = none
  m_range : mg "range" = none
  m_set : mg "set" = none
  m_sorted : mg "sorted" = none
  m_str : mg "str" = none
  m_tuple : mg "tuple" = none
  m_zip : mg "zip" = none
  kOPENS : ∃ t, mg "OPENS" = some (.str "opens" t)
  kBARS : ∃ t, mg "BARS" = some (.str "bars" t)
  kLOST : ∃ t, mg "LOST" = some (.str "lost" t)
  kLEFT : ∃ t, mg "LEFT" = some (.str "left" t)
  kSWAP : ∃ t, mg "SWAP" = some (.str "swap" t)
  kHAND : ∃ t, mg "HAND" = some (.str "hand" t)
section
variable {P : Program} {w : World} {K : PySem.W.Frag} {mg : Str → Option Value} {base : Heap}
/-- the rule for a def -/
theorem fn_ok {x q : Str} {st : Stmt} {f : Addr} {fd : FuncData} {N ps : List Str} {k : Nat} {sp : Sp} (F : FunD K x q (defArgs st) (defBody st) (defScope st) [] [] f fd) (S : FnScope N ps (defScope st))
    (len : ∀ vs H Q E, sp vs H Q E → vs.length = ps.length)
    (hbody : ∀ (cdv : Value) (A : Around) (outer : List Env) (s : Shared) (H : Hp) (vs : List V) (Q : VK) (E : XK), Room k (A.deeper (envOfC q (defScope st) s.heap.objs.size f cdv)) → sp vs H Q E →
      ∃ t, PSs (cxOf CX0 P w K mg base N q (defScope st) f cdv A outer s H E).nox (defBody st) t ∧ t { nx := fun _ H' => Q .non H', rt := Q } (start N vs) H) : FnOk P w K mg base CX0 (k + 1) f fd ps sp :=
  F.ok S len fun cdv A outer s H vs Q E hr h => by
    obtain ⟨t, h1, h2⟩ := hbody cdv A outer s H vs Q E hr h
    exact ⟨t, h1.nox, h2⟩
end
end Vk

set_option Elab.async false
set_option linter.all false
set_option maxRecDepth 100000
/-! Sets of keys and the like as data. -/
namespace Vk
open PySem L2 StX
abbrev Ks := List Str
abbrev Kss := List Ks
abbrev Vt := Ks × Kss
abbrev dS (s : Str) : PyData := .str s
def dT (l : Ks) : PyData := .tuple (l.map .str)
def dL (l : Ks) : PyData := .list (l.map .str)
def dTT (L : Kss) : PyData := .tuple (L.map dT)
def dLT (L : Kss) : PyData := .list (L.map dT)
def dV (v : Vt) : PyData := .tuple [dT v.1, dTT v.2]
/-- all of a within b -/
def wi (a b : Ks) : Bool := a.all fun x => decide (x ∈ b)
def ho (L : Kss) (h : Ks) : Bool := L.any fun o => wi o h
/-! contracts -/
def A_is_within (ds : List PyData) (d : PyData) : Prop := ∃ a b, ds = [dT a, dT b] ∧ d = .bool (wi a b)
def A_has_opener (ds : List PyData) (d : PyData) : Prop := ∃ L h, ds = [dTT L, dT h] ∧ d = .bool (ho L h)
theorem DpAll.two {K : PySem.W.Frag} {B : Hp} {vs : List V} {d e : PyData} (h : DpAll K B vs [d, e]) : ∃ v w, vs = [v, w] ∧ Dp K B v d ∧ Dp K B w e := by
  cases h with
  | cons h t => cases t with
    | cons h2 t2 => cases t2; exact ⟨_, _, rfl, h, h2⟩
section
variable {P : Program} {w : World} {K : PySem.W.Frag} {mg : Str → Option Value} {base : Heap} {T : Tb}
/-- a def that answers by data alone: from its body's reading -/
theorem pure_ok {x q : Str} {st : Stmt} {f : Addr} {fd : FuncData} {N ps : List Str} {k : Nat} {A : List PyData → PyData → Prop} (F : FunD K x q (defArgs st) (defBody st) (defScope st) [] [] f fd) (S : FnScope N ps (defScope st))
    (len : ∀ ds d, A ds d → ds.length = ps.length)
    (hbody : ∀ (cdv : Value) (A' : Around) (outer : List Env) (s : Shared) (H B : Hp) (vs : List V) (ds : List PyData) (d : PyData) (E : XK), Room k (A'.deeper (PyProof.Rows.envOfC q (defScope st) s.heap.objs.size f cdv)) → Fz B H → TOk T H → DpAll K B vs ds → A ds d →
      ∃ t : TS, PSs (cxOf CX0 P w K mg base N q (defScope st) f cdv A' outer s H E).nox (defBody st) t ∧ ∀ D : Ends, (∀ v B' H', St T B H B' H' → Dp K B' v d → D.rt v H') → t D (start N vs) H) :
    FnOk P w K mg base CX0 (k + 1) f fd ps (spD T K A) := by
  refine fn_ok F S (fun vs H Q E h => ?_) (fun cdv A' outer s H vs Q E hr h => ?_)
  · obtain ⟨B, ds, d, _, _, r, hA, _⟩ := h
    rw [r.length]; exact len ds d hA
  · obtain ⟨B, ds, d, f1, tk, r, hA, q⟩ := h
    obtain ⟨t, h1, h2⟩ := hbody cdv A' outer s H B vs ds d E hr f1 tk r hA
    exact ⟨t, h1, h2 _ q⟩
end
end Vk

set_option Elab.async false
set_option linter.all false
set_option maxRecDepth 100000
set_option maxHeartbeats 4000000
/-! sorted(xs): texts, tuples of texts (empty ones too). -/
namespace Vk
open PySem PySem.W PySem.Calls PyProof.Rows

section
variable {prog : Program} {w : World} {A : Around} {E : Value → Shared → Prop} {s : Shared}
/-- tuple's own < as the sort calls it -/
theorem tup_lt {Q : Value → Shared → Prop} {l b : Addr} {is js : Array Value} {e r : Nat → Bool} (hl : s.heap.IsTuple l is) (hb : s.heap.IsTuple b js)
    (he : ∀ j (h1 : j < is.size) (h2 : j < js.size), SeqAt.EqAt A.in1 s is[j] js[j] (e j)) (hr : ∀ j (h1 : j < is.size) (h2 : j < js.size), e j = false → SeqAt.RcLt A.in1 s is[j] js[j] (r j))
    (h : Q (.bool (SeqAt.firstLt e r (decide (is.size < js.size)) (List.range (min is.size js.size)))) s) : wpAny (model prog w) A (call (.builtin "tuple.__lt__") [.ref l, .ref b]) Q E s := by
  obtain ⟨⟨c1, d1, t1, s1⟩, ho, hc, n, hd⟩ := id hl
  obtain ⟨⟨c2, d2, t2, s2⟩, ho2, hc2, n2, hd2⟩ := id hb
  simp only at hc hd hc2 hd2
  subst hc hd hc2 hd2
  exact call_meets F.slot_tuple_lt ⟨_, ho, rfl⟩ F.entry_tuple_lt (F.args_tuple_lt_2 _ _) (SeqAt.tuple_ltAt l b is js n n2 d1 d2 s1 s2 e r) ⟨ho, ho2, he, hr, h⟩
/-- the sort's road for keys of one type, the type being tuple -/
theorem oneLt_tup {xs ys : List PyData} {a b : Value} {as bs : List Addr} {Q : Bool → Shared → Prop} (ra : Reads s.heap a (.tuple xs) as) (rb : Reads s.heap b (.tuple ys) bs) (h : alike (.tuple xs) (.tuple ys) = true)
    (hu : A.units + min (PyData.tuple xs).depth (PyData.tuple ys).depth < cLine) (hq : Q (dataLt (.tuple xs) (.tuple ys)) s) : wpAny (model prog w) A (oneLt' true a b) Q E s := by
  have hal : alikeAll xs ys = true := by simpa [alike] using h
  cases ra with
  | @tuple l o vs n _ as1 h1 h2 h3 h4 =>
    cases rb with
    | @tuple l' o' vs' n' _ bs1 k1 k2 k3 k4 =>
      have n1 : vs.size = xs.length := by simpa using SeqAt.ReadsAll.length _ _ _ h4
      have n2 : vs'.size = ys.length := by simpa using SeqAt.ReadsAll.length _ _ _ k4
      rw [dataLt_tuple, ← firstLt_toks xs ys hal, ← n1, ← n2] at hq
      rw [oneLt'_eq]
      simp only [if_true]
      refine wpAny_bind (wpAny_cRoomFor (SeqAt.room_here hu) ?_)
      refine wpAny_bind (wpAny_callSpecialIfBound?_slot (T := "tuple") ⟨_, h1, h2⟩ F.slot_tuple_lt (tup_lt (e := SeqAt.pairEq xs ys) (r := fun j => dataLt (xs.getD j .none) (ys.getD j .none)) ⟨_, h1, h2, _, h3⟩ ⟨_, k1, k2, _, k3⟩ (fun j j1 j2 => ?_) (fun j j1 j2 hj => ?_) ?_))
      · have := eqAt_alikeAll xs ys A.in1 s vs.toList vs'.toList _ _ h4 k4 hal (SeqAt.room_in hu) j (by simpa using j1) (by simpa using j2)
        simpa using this
      · have := rcLt_alikeAll xs ys A.in1 s vs.toList vs'.toList _ _ h4 k4 hal (SeqAt.room_in hu) j (by simpa using j1) (by simpa using j2) hj
        simpa using this
      · exact wpAny_truthy_bool hq
theorem firsts {Q : List (Option Value) → Shared → Prop} : ∀ {vs : List Value} {ds : List PyData}, EachIs (fun v d => ∃ as, Reads s.heap v d as) vs ds → (∀ d ∈ ds, ∃ xs, d = .tuple xs) →
    (∀ fs : List (Option Value), fs.map Option.isSome = ds.map (fun d => match d with | .tuple (_ :: _) => true | _ => false) → Q fs s) → wpAny (model prog w) A (vs.mapM firstOfTuple') Q E s
  | [], _, .nil, _, h => by rw [List.mapM_nil]; exact wpAny_pure (h [] rfl)
  | v :: vs, d :: ds, .cons ⟨as, r⟩ t, ht, h => by
    obtain ⟨xs, rfl⟩ := ht d List.mem_cons_self
    rw [List.mapM_cons]
    refine wpAny_bind ?_
    rw [kas_first_eq]
    cases r with
    | @tuple a o is n _ _ h1 h2 h3 h4 =>
      refine wpAny_bind (Looks.here (show Looks _ s.heap (typeOf (.ref a)) o.cls from (Looks.ld h1).andThen .now) ?_)
      rw [h2, if_neg (by first | decide | simp)]
      refine wpAny_bind (listItems_at h1 h3 (wpAny_pure ?_))
      refine wpAny_bind (firsts (Q := fun bs s' => wpAny _ A (pure (is[0]? :: bs)) Q E s') t (fun d hd => ht d (List.mem_cons_of_mem _ hd)) fun fs hf => wpAny_pure (h _ ?_))
      rw [List.map_cons, List.map_cons, hf]
      congr 1
      cases xs with
      | nil =>
        have : is.toList = [] := by
          cases q : is.toList with
          | nil => rfl
          | cons _ _ => rw [q] at h4; cases h4
        have : is = #[] := Array.toList_eq_nil_iff.mp this
        subst this; rfl
      | cons x xs =>
        cases q : is.toList with
        | nil => rw [q] at h4; cases h4
        | cons f fr =>
          have : is[0]? = some f := by rw [← Array.getElem?_toList, q]; rfl
          rw [this]; rfl
/-- tuples that are alike can be sorted, empty ones among them too -/
theorem sortsAt_tups {vs : List Value} {ds : List PyData} (e : EachIs (fun v d => ∃ as, Reads s.heap v d as) vs ds) (hal : AllAlike ds) (ht : ∀ d ∈ ds, ∃ xs, d = .tuple xs) (hu : ∀ d, d ∈ ds → A.units + d.depth < cLine) :
    SortsAt prog w A s (dataKind s.heap ds) vs := by
  by_cases hne : ∀ d ∈ ds, ∃ x r, d = .tuple (x :: r)
  · exact SortsAt.data e hal (.inl hne) hu
  have room : ∀ {d d' : PyData}, d ∈ ds → A.units + min d.depth d'.depth < cLine := fun {d d'} hd => Nat.lt_of_le_of_lt (Nat.add_le_add_left (Nat.min_le_left _ _) _) (hu d hd)
  refine ⟨fun v hv => ?_, ?_⟩
  · obtain ⟨d, hd, as, r⟩ := e.left v hv
    exact ⟨_, dataKind_some hal hd r⟩
  have gen : H.LtAt prog w A s (dataKind s.heap ds) general' := by
    intro E x y a b Q ha hb hq
    obtain ⟨d, as, hd, ra, rfl⟩ := dataKind_inv ha
    obtain ⟨d', as', hd', rb, rfl⟩ := dataKind_inv hb
    obtain ⟨xs, rfl⟩ := ht d hd
    exact oneLt_alike (f := false) (fun z => by cases z) ra rb (hal _ hd d' hd') (fun z => by cases z) (room hd) hq
  have one : H.LtAt prog w A s (dataKind s.heap ds) oneType' := by
    intro E x y a b Q ha hb hq
    obtain ⟨d, as, hd, ra, rfl⟩ := dataKind_inv ha
    obtain ⟨d', as', hd', rb, rfl⟩ := dataKind_inv hb
    obtain ⟨xs, rfl⟩ := ht d hd
    obtain ⟨ys, rfl⟩ := ht d' hd'
    rw [keyLt'_oneType]
    exact oneLt_tup ra rb (hal _ hd _ hd') (room hd) hq
  have notall : ∀ fs : List (Option Value), fs.map Option.isSome = ds.map (fun d => match d with | .tuple (_ :: _) => true | _ => false) → fs.toArray.all (·.isSome) = false := by
    intro fs hf
    rw [Bool.eq_false_iff]
    intro z
    refine hne fun d hd => ?_
    have z' : ∀ b ∈ fs.map Option.isSome, b = true := by
      intro b hb
      obtain ⟨o, ho, rfl⟩ := List.mem_map.mp hb
      simp only [List.all_toArray, List.all_eq_true] at z
      exact z o ho
    rw [hf] at z'
    have := z' _ (List.mem_map.mpr ⟨d, hd, rfl⟩)
    obtain ⟨xs, rfl⟩ := ht d hd
    cases xs with
    | nil => cases this
    | cons x r => exact ⟨x, r, rfl⟩
  cases ds with
  | nil => exact absurd (fun d hd => by cases hd) hne
  | cons d0 ds0 =>
    obtain ⟨x0, rfl⟩ := ht d0 List.mem_cons_self
    cases x0 with
    | nil =>
      refine ⟨oneType', one, fun h2 E Q hq => ?_⟩
      rw [keyKind'_eq, List.mapM_toArray, map_eq_pure_bind]
      refine wpAny_bind (wpAny_bind (firsts e ht fun fs hf => wpAny_pure ?_))
      rw [if_neg (by rw [notall fs hf]; decide)]
      have h0 : (fs.toArray[0]?.bind id).isSome = false := by
        cases fs with
        | nil => rfl
        | cons f fr =>
          have := congrArg List.head? hf
          simp only [List.map_cons, List.head?_cons, Option.some.injEq] at this
          cases f with
          | none => rfl
          | some _ => cases this
      rw [if_neg (by rw [h0]; decide)]
      rw [oneTypeOnly'_eq, List.mapM_toArray, map_eq_pure_bind]
      refine wpAny_bind (wpAny_bind (wpAny_bind (kas_mapM (r := Value.type "tuple") _ (fun v hv Q' hq => ?_) (wpAny_pure ?_))))
      · obtain ⟨d, hd, as, r⟩ := e.left v hv
        obtain ⟨xs, rfl⟩ := ht d hd
        exact (looks_reads r).here hq
      · have hall : ((List.map (fun _ => Value.type "tuple") vs).toArray.all fun x => x == Value.type "tuple") = true := by
          simp only [List.all_toArray, List.all_map, List.all_eq_true]
          intro _ _
          rfl
        obtain ⟨v0, vr, rfl⟩ : ∃ v0 vr, vs = v0 :: vr := by
          cases e with
          | cons _ _ => exact ⟨_, _, rfl⟩
        have h00 : (List.map (fun _ => Value.type "tuple") (v0 :: vr)).toArray[0]? = some (Value.type "tuple") := by simp
        rw [h00]
        simp only [hall, if_true]
        exact wpAny_pure (wpAny_pure hq)
    | cons x r =>
      refine ⟨general', gen, fun h2 E Q hq => ?_⟩
      rw [keyKind'_eq, List.mapM_toArray, map_eq_pure_bind]
      refine wpAny_bind (wpAny_bind (firsts e ht fun fs hf => wpAny_pure ?_))
      rw [if_neg (by rw [notall fs hf]; decide)]
      have h0 : (fs.toArray[0]?.bind id).isSome = true := by
        cases fs with
        | nil => simp at hf
        | cons f fr =>
          have := congrArg List.head? hf
          simp only [List.map_cons, List.head?_cons, Option.some.injEq] at this
          cases f with
          | none => cases this
          | some _ => rfl
      rw [if_pos h0]
      exact wpAny_pure hq
end

/-! ### texts, tuples of texts -/
def Gd (ds : List PyData) : Prop := (∃ ss : Ks, ds = ss.map .str) ∨ (∃ L : Kss, ds = L.map dT)
def sortD (ds : List PyData) : List PyData := ds.mergeSort (dataLe false id)
theorem alike_strs : ∀ a b : Ks, alikeAll (a.map .str) (b.map .str) = true
  | [], _ => by simp [alikeAll]
  | _ :: _, [] => by simp [alikeAll]
  | x :: xs, y :: ys => by
    show alikeAll (.str x :: xs.map .str) (.str y :: ys.map .str) = true
    rw [alikeAll, alike_strs xs ys]
    simp [alike]
theorem alike_dT (a b : Ks) : alike (dT a) (dT b) = true := by unfold dT; rw [alike]; exact alike_strs a b
theorem Gd.alike {ds : List PyData} (g : Gd ds) : AllAlike ds := by
  intro d hd e he
  rcases g with ⟨ss, rfl⟩ | ⟨L, rfl⟩
  · obtain ⟨x, _, rfl⟩ := List.mem_map.mp hd
    obtain ⟨y, _, rfl⟩ := List.mem_map.mp he
    simp [PySem.W.alike]
  · obtain ⟨x, _, rfl⟩ := List.mem_map.mp hd
    obtain ⟨y, _, rfl⟩ := List.mem_map.mp he
    exact alike_dT x y
theorem depth_strs : ∀ xs : Ks, PyData.depthAll (xs.map .str) = 0
  | [] => by simp [PyData.depthAll]
  | x :: xs => by
    show PyData.depthAll (.str x :: xs.map .str) = 0
    rw [PyData.depthAll, depth_strs xs]
    simp [PyData.depth]
theorem Gd.depth {ds : List PyData} (g : Gd ds) : ∀ d ∈ ds, d.depth ≤ 1 := by
  intro d hd
  rcases g with ⟨ss, rfl⟩ | ⟨L, rfl⟩
  · obtain ⟨x, _, rfl⟩ := List.mem_map.mp hd
    simp [PyData.depth]
  · obtain ⟨x, _, rfl⟩ := List.mem_map.mp hd
    unfold dT
    simp [PyData.depth, depth_strs]
theorem Gd.sub {ds es : List PyData} (g : Gd ds) (h : ∀ d ∈ es, d ∈ ds) : Gd es := by
  rcases g with ⟨ss, rfl⟩ | ⟨L, rfl⟩
  · left
    induction es with
    | nil => exact ⟨[], rfl⟩
    | cons d es ih =>
      obtain ⟨ss', rfl⟩ := ih fun d hd => h d (List.mem_cons_of_mem _ hd)
      obtain ⟨x, _, rfl⟩ := List.mem_map.mp (h d List.mem_cons_self)
      exact ⟨x :: ss', rfl⟩
  · right
    induction es with
    | nil => exact ⟨[], rfl⟩
    | cons d es ih =>
      obtain ⟨ss', rfl⟩ := ih fun d hd => h d (List.mem_cons_of_mem _ hd)
      obtain ⟨x, _, rfl⟩ := List.mem_map.mp (h d List.mem_cons_self)
      exact ⟨x :: ss', rfl⟩
section
variable {prog : Program} {w : World} {A : Around} {s : Shared}
theorem sortsAt_gd {vs : List Value} {ds : List PyData} (g : Gd ds) (e : EachIs (fun v d => ∃ as, Reads s.heap v d as) vs ds) (hu : A.units + 1 < cLine) : SortsAt prog w A s (dataKind s.heap ds) vs := by
  have hd : ∀ d ∈ ds, A.units + d.depth < cLine := fun d h => Nat.lt_of_le_of_lt (Nat.add_le_add_left (g.depth d h) _) hu
  have al := g.alike
  rcases g with ⟨ss, rfl⟩ | ⟨L, rfl⟩
  · refine SortsAt.data e al (.inr fun d h => ?_) hd
    obtain ⟨x, _, rfl⟩ := List.mem_map.mp h
    exact ⟨(fun z => by cases z), fun xs z => by cases z⟩
  · refine sortsAt_tups e al (fun d h => ?_) hd
    obtain ⟨x, _, rfl⟩ := List.mem_map.mp h
    exact ⟨_, rfl⟩
end
open L2
/-- each value, known as data -/
def Kn (K : PySem.W.Frag) (H : Hp) (u : Value) (d : PyData) : Prop := ∃ x, RelV x u ∧ Dp K H x d
theorem kn_of {K : PySem.W.Frag} {H : Hp} : ∀ {xs : List V} {us : List Value} {ds : List PyData}, Vals xs us → DpAll K H xs ds → EachIs (Kn K H) us ds
  | _, _, _, .nil, .nil => .nil
  | _, _, _, .cons r t, .cons h t2 => .cons ⟨_, r, h⟩ (kn_of t t2)
theorem of_kn {K : PySem.W.Frag} {H : Hp} : ∀ {us : List Value} {ds : List PyData}, EachIs (Kn K H) us ds → ∃ xs, Vals xs us ∧ DpAll K H xs ds
  | _, _, .nil => ⟨[], .nil, .nil⟩
  | _, _, .cons ⟨x, r, h⟩ t => by
    obtain ⟨xs, a, b⟩ := of_kn t
    exact ⟨x :: xs, .cons r a, .cons h b⟩
theorem Kn.sub {K : PySem.W.Frag} {B H : Hp} (s : Sub B H) {u : Value} {d : PyData} (h : Kn K B u d) : Kn K H u d := by
  obtain ⟨x, r, z⟩ := h
  exact ⟨x, r, Dp.sub s _ _ z⟩
theorem kn_reads {X : Cx} {pins : List (Addr × Obj)} {σ : L2.St} {H : Hp} {s : Shared} (I : Inv X pins σ H s) {us : List Value} {ds : List PyData} (e : EachIs (Kn X.K H) us ds) : EachIs (fun v d => ∃ as, Reads s.heap v d as) us ds :=
  e.mono fun _ _ ⟨_, r, h⟩ => Dp.reads I _ _ _ h r
/-- sorted(xs), xs a list of texts or of tuples of texts -/
def rSrt (K : PySem.W.Frag) : List V → Hp → VK → Prop := fun vs H Q => ∃ B v ds, Sub B H ∧ vs = [v] ∧ Dp K B v (.list ds) ∧ Gd ds ∧ ∀ p xs, H p = none → DpAll K B xs (sortD ds) → Q (.ref p) (upd H p (.lst xs))
theorem kSrt {X : Cx} {K : PySem.W.Frag} (hK : X.K = K) (hu : X.A.units + 64 < cLine) : CallR X (.builtin "sorted") (rSrt K) := by
  subst hK
  intro pins s σ H vs us Q I r h
  obtain ⟨B, v, ds, sb, rfl, hd, g, q⟩ := h
  cases hd with
  | @lst a xs _ hs ha =>
    obtain ⟨its, rv, hl, hz⟩ := I.list (sqL_sub sb hs)
    rw [Vals.ref1 r]
    have e := kn_of rv ha
    have hle : its.length = xs.length := rv.length.symm
    have er := kn_reads I (e.mono fun _ _ z => Kn.sub sb z)
    have er' : EachIs (fun v d => ∃ as, Reads (sortingHeap (copyHeap s.heap its) (s.heap.objs.size + 1) its) v d as) its ds := er.mono fun _ _ ⟨as, r⟩ => ⟨as, PyProof.Rows.Reads.keeps (fun _ _ => sorting_copy_old) r⟩
    refine sorted_vals hl.isList (sortsAt_gd (s := { s with heap := sortingHeap (copyHeap s.heap its) (s.heap.objs.size + 1) its }) g er' (by show X.A.units + 2 + 1 < cLine; omega)) (by rw [hle]; exact hz) ?_
    have eo := sortVals_data (enc := id) false e er' (by rw [List.map_id]; exact g.alike)
    rw [List.map_id] at eo
    obtain ⟨xs', rx, rd⟩ := of_kn eo
    obtain ⟨ep, he'⟩ := PyProof.Rows.sortedAll_at s.heap its (sortVals (dataKind (sortingHeap (copyHeap s.heap its) (s.heap.objs.size + 1) its) ds) false its its).toArray
    have hlen : xs'.length ≤ sizeLine := by
      rw [rx.length, sortVals_length false rfl, hle]; exact hz
    exact ⟨.ref _, upd H (s.heap.objs.size + 1) (.lst xs'), I.laid (t' := s.toks) (fun _ _ => PyProof.Rows.sortedAll_old) (Nat.le_succ _) ⟨hlen, _, ep, rx, he'⟩, rfl, q _ xs' (I.hok.fresh (Nat.le_succ _)) rd⟩
theorem ed_srt {T : Tb} {K : PySem.W.Frag} {σ : L2.St} {B : Hp} {te : TE} {ds : List PyData} (h : ED T K te σ B (.list ds)) (g : Gd ds) : ED T K (tCB (rSrt K) (tCons te tNil)) σ B (.list (sortD ds)) :=
  ed_cb (eda_cons h eda_nil) fun B1 H1 vs Q f tk r q => by
    obtain ⟨v, rfl, w⟩ := dpAll1 r
    exact ⟨B1, v, ds, fz_sub f, rfl, w, g, fun p xs n r' => q _ _ _ (St.laid f n noT_lst) (Dp.newL (f.off n) r')⟩
end Vk

set_option Elab.async false
set_option linter.all false
set_option maxRecDepth 100000
set_option maxHeartbeats 4000000
/-! Sets of texts and of tuples of texts: adding, at the model's level. -/
namespace Vk
open PySem PyProof.Rows L2

theorem perm_unmap {α β : Type} {f : α → β} {m l2 : List β} (h : l2.Perm m) : ∀ l : List α, m = l.map f → ∃ l' : List α, l'.Perm l ∧ l2 = l'.map f := by
  induction h with
  | nil =>
    intro l e
    exact ⟨l, List.Perm.refl _, e⟩
  | cons x _ ih =>
    intro l e
    cases l with
    | nil => cases e
    | cons y l =>
      injection e with e1 e2
      obtain ⟨l', p, q⟩ := ih l e2
      exact ⟨y :: l', p.cons y, by rw [e1, q]; rfl⟩
  | swap x y r =>
    intro l e
    match l, e with
    | [], e => cases e
    | [_], e => simp at e
    | a :: b :: l, e =>
      injection e with e1 e2
      injection e2 with e2 e3
      exact ⟨b :: a :: l, List.Perm.swap a b l, by rw [e1, e2, e3]; rfl⟩
  | trans _ _ ih1 ih2 =>
    intro l e
    obtain ⟨l1, p1, q1⟩ := ih2 l e
    obtain ⟨l2, p2, q2⟩ := ih1 l1 q1
    exact ⟨l2, p2.trans p1, q2⟩
section
variable {P : Program} {w : World} {A : Around} {E : Value → Shared → Prop} {s : Shared} {κ : Type}
/-- a set's rows: keys with the values that stand for them, in the table's order -/
structure SR (w : World) (hs : κ → Int) (h : Heap) (a : Addr) (L : List (κ × Value)) (es : Array (Int × Value)) (ep : Nat) (t : SetTable) : Prop where
  ob : ∃ o, h.get? a = some o ∧ o.ExactSet ∧ o.data = .set es ep t
  rows : es.toList = L.map fun p => (hs p.1, p.2)
  fits : t.fits es.size = true
  ris : Ris t.place.toList
  led : w.params.followText "set-order" = true ∨ t.led = true
  nd : (L.map (·.1)).Nodup
  few : L.length < 64
variable {hs : κ → Int} {a : Addr} {L : List (κ × Value)} {es : Array (Int × Value)} {ep : Nat} {t : SetTable}
theorem SR.size {h : Heap} (R : SR w hs h a L es ep t) : es.size = L.length := by
  have := congrArg List.length R.rows
  simpa using this
theorem rows_size (h : es.toList = L.map fun p => (hs p.1, p.2)) : es.size = L.length := by
  have := congrArg List.length h
  simpa using this
theorem row_at (h : es.toList = L.map fun p => (hs p.1, p.2)) {i : Nat} {p : κ × Value} (hp : L[i]? = some p) : es[i]? = some (hs p.1, p.2) := by
  rw [← Array.getElem?_toList, h, List.getElem?_map, hp]; rfl
/-- a new set object -/
abbrev newSetO (w : World) : Obj := { cls := .type "set", dict := none, data := .set #[] 0 (.fresh 0 0 (!w.params.followText "set-order")) }
theorem sr_new {h : Heap} (ho : h.get? a = some (newSetO w)) : SR w hs h a [] #[] 0 (.fresh 0 0 (!w.params.followText "set-order")) where
  ob := ⟨_, ho, ⟨rfl, rfl, rfl⟩, rfl⟩
  rows := rfl
  fits := rfl
  ris := List.Pairwise.nil
  led := by
    show _ ∨ (!w.params.followText "set-order") = true
    cases w.params.followText "set-order"
    · exact .inr rfl
    · exact .inl rfl
  nd := List.nodup_nil
  few := Nat.zero_lt_succ _
theorem SR.at {h h' : Heap} (R : SR w hs h a L es ep t) (k : ∀ o, h.get? a = some o → h'.get? a = some o) : SR w hs h' a L es ep t := by
  obtain ⟨o, ho, r⟩ := R.ob
  exact ⟨⟨o, k o ho, r⟩, R.rows, R.fits, R.ris, R.led, R.nd, R.few⟩

/-! ### texts: by scan -/
/-- the rows are texts -/
def Txts (L : List (Str × Value)) : Prop := ∀ p ∈ L, ∃ u, p.2 = Value.str p.1 u
theorem txt_elems {L : List (Str × Value)} {es : Array (Int × Value)} (h : es.toList = L.map fun p => (hashStr w p.1, p.2)) (x : Txts L) : ElemsOf (PySem.strKind P w) es.toList := by
  intro e he
  rw [h] at he
  obtain ⟨p, hp, rfl⟩ := List.mem_map.mp he
  obtain ⟨u, hu⟩ := x p hp
  exact ⟨⟨p.1, by rw [hu]; exact strKind_is P w _ _, rfl⟩, by rw [hu]; rfl⟩
theorem rows_perm {L : List (κ × Value)} {es es1 : Array (Int × Value)} {k : κ} {x : Value} (h : es.toList = L.map fun p => (hs p.1, p.2)) (pm : es1.toList.Perm ((hs k, x) :: es.toList)) :
    ∃ L1 : List (κ × Value), L1.Perm ((k, x) :: L) ∧ es1.toList = L1.map fun p => (hs p.1, p.2) := by
  obtain ⟨L1, h1, h2⟩ := perm_unmap (f := fun p : κ × Value => (hs p.1, p.2)) pm ((k, x) :: L) (by rw [h]; rfl)
  exact ⟨L1, h1, h2⟩
theorem scan_mark (b : Bool) {s₁ : Shared} {Q' : Unit → Shared → Prop} (h : Q' () s₁) : wpAny (model P w) A (match b with | true => rule "set.scan.the-table-gave-way" | false => pure ()) Q' E s₁ := by
  cases b
  · exact wpAny_pure h
  · exact wpAny_rule h
/-- the tail of an addition by scan: stored, and laid anew if it is too full -/
theorem tail_txt {L1 : List (Str × Value)} {g : Bool → Sem Unit} (hg : ∀ (b : Bool) (s₁ : Shared) (Q' : Unit → Shared → Prop), Q' () s₁ → wpAny (model P w) A (g b) Q' E s₁)
    {o : Obj} {es es1 : Array (Int × Value)} {ep : Nat} {t t2 : SetTable} (ho : s.heap.get? a = some o) (hex : o.ExactSet) (hd : o.data = .set es ep t) (hr : es1.toList = L1.map fun p => (hashStr w p.1, p.2))
    (nd : (L1.map (·.1)).Nodup) (few : L1.length < 64) (hf : t2.fits es1.size = true) (ri : Ris t2.place.toList) (le : w.params.followText "set-order" = true ∨ t2.led = true) {wd : Bool} {R : Option Bool → Shared → Prop}
    (hR : ∀ h' L' es' ep' t', Heap.SameBut a s.heap h' → SR w (hashStr w) h' a L' es' ep' t' → L'.Perm L1 → R (some true) { s with heap := h' }) :
    wpAny (model P w) A (do
        storeSet a es1 t2
        if (!wd && t2.tooFull) = true then do
            g (relayAll t2 es1 (SetTable.grown es1.size)).2.2
            storeSet a (relayAll t2 es1 (SetTable.grown es1.size)).1 (relayAll t2 es1 (SetTable.grown es1.size)).2.1
            pure (some true)
          else pure (some true)) R E s := by
  have z1 : es1.size ≤ sizeLine := by rw [rows_size hr, sizeLine_eq]; omega
  refine wpAny_bind (wpAny_storeSet_of ho hd ?_ z1)
  have ho1 := store_at (es' := es1) (t' := t2) ho hd
  have sb1 := Heap.SameBut.update s.heap a (Obj.putSet es1 t2)
  split
  · have pm := relayAll_perm t2 es1 (SetTable.grown es1.size)
    have f3 := relayAll_fits t2 es1 (SetTable.grown es1.size)
    have r3 := relayAll_ris t2 es1 (SetTable.grown es1.size)
    have l3 := relayAll_led t2 es1 (SetTable.grown es1.size)
    generalize relayAll t2 es1 (SetTable.grown es1.size) = Z at pm f3 r3 l3 ⊢
    obtain ⟨es2, t3, gv⟩ := Z
    dsimp only at pm f3 r3 l3 ⊢
    obtain ⟨L2, p2, e2⟩ := perm_unmap (f := fun p : Str × Value => (hashStr w p.1, p.2)) pm L1 hr
    refine wpAny_bind (hg _ _ _ (wpAny_bind (wpAny_storeSet_of ho1 rfl ?_ (by rw [rows_size e2, p2.length_eq, sizeLine_eq]; omega))))
    have ho2 := store_at (es' := es2) (t' := t3) ho1 rfl
    refine wpAny_pure (hR _ L2 es2 _ t3 (sb1.trans (Heap.SameBut.update _ a _)) ⟨⟨_, ho2, hex, rfl⟩, e2, f3, r3, ?_, (p2.map _).nodup_iff.mpr nd, by rw [p2.length_eq]; exact few⟩ p2)
    exact le.imp id fun z => by rw [l3]; exact z
  · exact wpAny_pure (hR _ L1 es1 _ t2 sb1 ⟨⟨_, ho1, hex, rfl⟩, hr, hf, ri, le, nd, few⟩ (List.Perm.refl _))
/-- a text is added -/
theorem add_txt {L : List (Str × Value)} {es : Array (Int × Value)} {ep : Nat} {t : SetTable} {k : Str} {u : Tok} {Q : Bool → Shared → Prop} (R : SR w (hashStr w) s.heap a L es ep t) (x : Txts L) (hfew : L.length + 1 < 64)
    (hQ : ∀ b h' L' es' ep' t', Heap.SameBut a s.heap h' → SR w (hashStr w) h' a L' es' ep' t' → (k ∈ L.map (·.1) → L' = L) → (k ∉ L.map (·.1) → L'.Perm ((k, .str k u) :: L)) → Q b { s with heap := h' }) :
    wpAny (model P w) A (setAddHashed a (.str k u) (hashStr w k)) Q E s := by
  obtain ⟨o, ho, hex, hd⟩ := R.ob
  have hel := txt_elems (P := P) R.rows x
  have hkey : (PySem.strKind P w).is k (.str k u) = true := strKind_is P w k u
  have hb : es.size < scanBound := by rw [R.size]; have : scanBound = 4096 := rfl; omega
  unfold setAddHashed setAddHashedIn
  refine wpAny_holding (wpAny_bind (wpAny_setState_of ho hd R.fits ?_))
  dsimp only
  rw [byScan_of (x := .str k u) rfl hb hel]
  simp only [↓reduceIte]
  unfold setAddByScan
  refine wpAny_bind (wpAny_bind (wpAny_rule (wpAny_bind (wpAny_setScan_of (knd := PySem.strKind P w) hkey ho hd R.fits hel ?_))))
  have mem : k ∈ L.map (·.1) ↔ ∃ e ∈ es.toList, (PySem.strKind P w).is k e.2 = true := by
    rw [R.rows]
    constructor
    · intro h
      obtain ⟨p, hp, rfl⟩ := List.mem_map.mp h
      obtain ⟨u', hu⟩ := x p hp
      exact ⟨_, List.mem_map.mpr ⟨p, hp, rfl⟩, by rw [hu]; exact strKind_is P w _ _⟩
    · rintro ⟨e, he, h⟩
      obtain ⟨p, hp, rfl⟩ := List.mem_map.mp he
      obtain ⟨u', hu⟩ := x p hp
      rw [hu] at h
      have := (PySem.strKind P w).inj _ _ _ h (strKind_is P w p.1 u')
      rw [this]
      exact List.mem_map.mpr ⟨p, hp, rfl⟩
  cases hfi : List.findIdx? (fun e => (PySem.strKind P w).is k e.2) es.toList with
  | some j =>
    dsimp only
    obtain ⟨hj, pj, _⟩ := List.findIdx?_eq_some_iff_getElem.mp hfi
    have hm := mem.mpr ⟨_, List.getElem_mem hj, pj⟩
    exact wpAny_pure (wpAny_pure (hQ false s.heap L es ep t (Heap.SameBut.refl a s.heap) R (fun _ => rfl) fun z => absurd hm z))
  | none =>
    dsimp only
    have hm : k ∉ L.map (·.1) := fun z => by
      obtain ⟨e, he, q⟩ := mem.mp z
      have c := List.findIdx?_eq_none_iff.mp hfi e he
      rw [q] at c
      cases c
    have pm := layNew_perm t es (hashStr w k) (.str k u)
    have f1 := layNew_fits t es (hashStr w k) (.str k u)
    have r1 := layNew_ris t es (hashStr w k) (.str k u) R.ris
    have l1 := layNew_led t es (hashStr w k) (.str k u)
    show wpAny _ _ (let q := layNew t es (hashStr w k) (.str k u); _) _ _ _
    generalize layNew t es (hashStr w k) (.str k u) = Z at pm f1 r1 l1 ⊢
    obtain ⟨es1, t1, wd, gv⟩ := Z
    dsimp only at pm f1 r1 l1 ⊢
    rw [Array.toList_push] at pm
    obtain ⟨L1, p1, e1⟩ := rows_perm (hs := hashStr w) (k := k) (x := .str k u) R.rows (pm.trans (List.perm_append_singleton _ _))
    have nd1 : (L1.map (·.1)).Nodup := (p1.map _).nodup_iff.mpr (List.nodup_cons.mpr ⟨hm, R.nd⟩)
    have few1 : L1.length < 64 := by rw [p1.length_eq, List.length_cons]; exact hfew
    have le1 : w.params.followText "set-order" = true ∨ t1.led = true := R.led.imp id fun z => by rw [l1]; exact z
    refine wpAny_bind (scan_mark _ ?_)
    have fin : ∀ h' L' es' ep' t', Heap.SameBut a s.heap h' → SR w (hashStr w) h' a L' es' ep' t' → L'.Perm L1 → Q true { s with heap := h' } := fun h' L' es' ep' t' sb r pm' =>
      hQ true h' L' es' ep' t' sb r (fun z => absurd z hm) fun _ => pm'.trans p1
    split
    · refine wpAny_bind ?_
      rw [hashByValue_scannable 8 (x := .str k u) rfl]
      refine wpAny_pure ?_
      refine tail_txt (fun b s₁ Q' q => scan_mark b q) ho hex hd e1 nd1 few1 ?_ ?_ ?_ ?_
      · first | (split <;> first | exact f1 | exact SetTable.fits_plain_off f1) | exact f1
      · first | (split <;> exact r1) | exact r1
      · first | (split <;> exact le1) | exact le1
      · intro h' L' es' ep' t' sb r pm'; dsimp only; exact wpAny_pure (fin h' L' es' ep' t' sb r pm')
    · refine wpAny_bind (wpAny_pure ?_)
      simp only [↓reduceIte]
      refine tail_txt (fun b s₁ Q' q => scan_mark b q) ho hex hd e1 nd1 few1 f1 r1 le1 ?_
      intro h' L' es' ep' t' sb r pm'; dsimp only; exact wpAny_pure (fin h' L' es' ep' t' sb r pm')

/-! ### tuples of texts: by search -/
abbrev thS (P : Program) (w : World) (k : Ks) : Int := tupleKeyHash (PySem.strKind P w) k
abbrev IsK (P : Program) (w : World) (h : Heap) (k : Ks) (b : Addr) : Prop := IsTupleKey (PySem.strKind P w) h k b
theorem texts_of {k : Ks} {vs : List Value} (h : ItemsAre (PySem.strKind P w) k vs) : ∀ v ∈ vs, ∃ x u, v = Value.str x u := by
  induction h with
  | nil => intro v hv; cases hv
  | @cons k0 v' ks vs h1 _ ih =>
    intro v hv
    rcases List.mem_cons.mp hv with e | hv
    · obtain ⟨u, e2⟩ := Value.isStrOf_shape h1
      exact ⟨k0, u, e.trans e2⟩
    · exact ih v hv
/-- whether the set stays plain: only for the empty tuple -/
theorem plain_tup {k : Ks} {b : Addr} {Q : Bool → Shared → Prop} (hk : IsK P w s.heap k b) (h : ∀ c, Q c s) : wpAny (model P w) A (hashByValue 8 (.ref b)) Q E s := by
  have hT := hk.typeIs
  obtain ⟨o, items, n, ho, _, hd, hi⟩ := hk
  unfold hashByValue
  refine wpAny_bind (wpAny_specialOf hT F.slot_tuple_hash.lookup ?_)
  show wpAny _ _ (seqItems? (.ref b) >>= _) _ _ s
  refine wpAny_bind (wpAny_seqItems ho hd ?_)
  refine wpAny_bind ?_
  show wpAny _ _ (forIn items _ _) _ _ s
  rw [← Array.forIn_toList]
  have hx := texts_of hi
  cases q : items.toList with
  | nil =>
    rw [List.forIn_nil]
    exact wpAny_pure (wpAny_pure (h _))
  | cons v vs =>
    obtain ⟨x, u, rfl⟩ := hx v (by rw [q]; exact List.mem_cons_self)
    rw [List.forIn_cons]
    have e : hashByValue 7 (.str x u) = pure false := rfl
    rw [e]
    refine wpAny_bind (wpAny_bind (wpAny_pure ?_))
    simp only [Bool.not_false, if_true]
    exact wpAny_pure (wpAny_pure (wpAny_pure (h _)))
theorem noClass_str (n : Nat) (x : Str) (u : Tok) : ofAClassStatement n (.str x u) = pure false := by cases n <;> rfl
theorem noClass_tup {k : Ks} {b : Addr} {Q : Bool → Shared → Prop} (hk : IsK P w s.heap k b) (h : Q false s) : wpAny (model P w) A (ofAClassStatement 8 (.ref b)) Q E s := by
  have hT := hk.typeIs
  obtain ⟨o, items, n, ho, _, hd, hi⟩ := hk
  unfold ofAClassStatement
  refine wpAny_bind (wpAny_typeOf hT ?_)
  dsimp only
  have e : (("tuple" : String) == "tuple") = true := by decide
  simp only [e, if_true, Bool.not_true, Bool.false_eq_true, if_false]
  try refine wpAny_bind (wpAny_pure ?_)
  try simp only [Bool.not_true, Bool.false_eq_true, if_false]
  show wpAny _ _ (seqItems? (.ref b) >>= _) _ _ s
  refine wpAny_bind (wpAny_seqItems ho hd ?_)
  dsimp only
  refine wpAny_bind ?_
  show wpAny _ _ (forIn items _ _) _ _ s
  rw [← Array.forIn_toList]
  refine wpAny_forIn_list _ (fun l r s' => r.1 = none ∧ s' = s ∧ ∀ v ∈ l, ∃ x u, v = Value.str x u) _ ?_ ?_ _ _ ⟨rfl, rfl, texts_of hi⟩
  · rintro v l r s' ⟨hr, rfl, hall⟩
    obtain ⟨x, u, rfl⟩ := hall v List.mem_cons_self
    rw [noClass_str]
    refine wpAny_bind (wpAny_pure ?_)
    simp only [Bool.false_eq_true, if_false]
    exact wpAny_pure ⟨rfl, rfl, fun z hz => hall z (List.mem_cons_of_mem _ hz)⟩
  · rintro ⟨r1, r2⟩ s' ⟨hr, rfl, _⟩
    simp only at hr
    subst hr
    exact wpAny_pure h
/-- the search shows nothing of the table -/
theorem unseen_tup {k : Ks} {b : Addr} {Q : Bool → Shared → Prop} (hk : IsK P w s.heap k b) {ys : List Value} (hy : ∀ y ∈ ys, ∃ k' c, y = Value.ref c ∧ IsK P w s.heap k' c) (h : Q false s) :
    wpAny (model P w) A (searchCouldBeSeen (.ref b) ys) Q E s := by
  unfold searchCouldBeSeen
  refine wpAny_bind ?_
  refine wpAny_forIn_list _ (fun l r s' => r.1 = none ∧ s' = s ∧ ∀ y ∈ l, ∃ k' c, y = Value.ref c ∧ IsK P w s.heap k' c) _ ?_ ?_ _ _ ⟨rfl, rfl, hy⟩
  · rintro v l r s' ⟨hr, rfl, hall⟩
    obtain ⟨k', c, rfl, hc⟩ := hall v List.mem_cons_self
    have tl : ∀ y ∈ l, ∃ k' c, y = Value.ref c ∧ IsK P w s'.heap k' c := fun z hz => hall z (List.mem_cons_of_mem _ hz)
    dsimp only
    by_cases hv : (b == c || (carriedByValue (.ref b) && carriedByValue (.ref c))) = true
    · exact wp_if_pos hv (wpAny_pure ⟨rfl, rfl, tl⟩)
    · refine wp_if_neg hv (wpAny_bind (wpAny_eqIsQuiet_tuple hk ?_))
      simp only [Bool.not_true, Bool.false_eq_true, if_false]
      refine wpAny_bind (wpAny_eqIsQuiet_tuple hc ?_)
      simp only [Bool.not_true, Bool.false_eq_true, if_false]
      refine wpAny_bind (noClass_tup hk ?_)
      simp only [Bool.false_eq_true, if_false]
      refine wpAny_bind (noClass_tup hc ?_)
      simp only [Bool.false_eq_true, if_false]
      exact wpAny_pure ⟨rfl, rfl, tl⟩
  · rintro ⟨r1, r2⟩ s' ⟨hr, rfl, _⟩
    simp only at hr
    subst hr
    exact wpAny_pure h
/-- the rows are tuples of texts; the table finds each again -/
structure Tps (P : Program) (w : World) (h : Heap) (L : List (Ks × Value)) (t : SetTable) : Prop where
  el : ∀ p ∈ L, ∃ b, p.2 = Value.ref b ∧ IsK P w h p.1 b
  tab : TabOk t (L.map fun p => thS P w p.1)
  room : L.length * 5 < t.mask * 3
section
variable {L : List (Ks × Value)} {es : Array (Int × Value)} {ep : Nat} {t : SetTable}
/-- the search among the rows, from the c-th step of the way on; K: the first empty slot of the way -/
theorem find_from (R : SR w (thS P w) s.heap a L es ep t) (X : Tps P w s.heap L t) {x : Addr} {k : Ks} (hx : IsK P w s.heap k x) (hu : A.units < cLine) {K : Nat} (hKf : K < 10 * SetTable.turns t.mask)
    (hK : way t.mask (thS P w k) K ∉ t.place.toList) (hKb : ∀ c, c < K → way t.mask (thS P w k) c ∈ t.place.toList) {Q : SetFound → Shared → Prop}
    (yes : k ∈ L.map (·.1) → Q (.there none) s) (no : k ∉ L.map (·.1) → Q (.free (way t.mask (thS P w k) K) false) s) (n : Nat) :
    ∀ (f c : Nat) (st : Option SetTable.Probe), K - c = n → n < f → c ≤ K → st.getD (t.probeStart (thS P w k)) = nth t.mask (runAt t.mask (SetTable.bits (thS P w k) % (t.mask + 1)) (SetTable.bits (thS P w k))) c →
      (∀ (i : Nat) p, L[i]? = some p → p.1 = k → ∃ c', c ≤ c' ∧ c' < K ∧ t.place.toList[i]? = some (way t.mask (thS P w k) c')) →
      wpAny (model P w) A (setSearchFrom a (.ref x) (thS P w k) true f st) Q E s := by
  induction n using Nat.strongRecOn with
  | _ n ih =>
  intro f c st hn hf hc hst hre
  obtain ⟨f, rfl⟩ : ∃ f', f = f' + 1 := ⟨f - 1, by omega⟩
  obtain ⟨o, ho, hex, hd⟩ := R.ob
  generalize hH : thS P w k = hv at *
  rw [setSearchFrom_succ]
  refine wpAny_bind (wpAny_setState_of ho hd R.fits ?_)
  dsimp only
  refine wp_if_neg (by unfold SetTable.gaveWay; rw [mask_odd X.tab.mok]; decide) ?_
  try refine wpAny_bind (wpAny_pure ?_)
  have hdum : ∀ (m : Nat) (p : SetTable.Probe), p.dummy = none → (nth t.mask p m).dummy = none := by
    intro m
    induction m with
    | zero => exact fun p h => h
    | succ m ihm =>
      intro p h
      refine ihm (adv t.mask p) ?_
      unfold adv
      split
      · exact h
      · exact h
  have from_c : ∀ q, nth t.mask (nth t.mask (runAt t.mask (SetTable.bits hv % (t.mask + 1)) (SetTable.bits hv)) c) q = nth t.mask (runAt t.mask (SetTable.bits hv % (t.mask + 1)) (SetTable.bits hv)) (c + q) := fun q => (nth_add t.mask c _ q).symm
  have from_j : ∀ q, (nth t.mask (nth t.mask (runAt t.mask (SetTable.bits hv % (t.mask + 1)) (SetTable.bits hv)) c) q).j = way t.mask hv (c + q) := fun q => congrArg SetTable.Probe.j (from_c q)
  have hash_i : ∀ (i : Nat) p, L[i]? = some p → (fun i => (es[i]?.map (·.1)).getD 0) i = thS P w p.1 := fun i p hp => by
    show (es[i]?.map (·.1)).getD 0 = _
    rw [row_at R.rows hp]; rfl
  have K' : c + (K - c) = K := by omega
  rcases go_spec t X.tab.ris X.tab.dm (fun i => (es[i]?.map (·.1)).getD 0) hv (10 * SetTable.turns t.mask) (K - c) _ (hdum c _ rfl) (by omega)
      (fun q hq => by rw [from_j]; exact hKb (c + q) (by omega)) (by rw [from_j, K']; exact hK) with ⟨q, i, hq, hi, hh, hno, hpr⟩ | ⟨hno, hpr⟩
  · have hpr' : t.probe (fun i => (es[i]?.map (·.1)).getD 0) hv (st.getD (t.probeStart hv)) = some (.candidate (way t.mask hv (c + q)) i (nth t.mask (runAt t.mask (SetTable.bits hv % (t.mask + 1)) (SetTable.bits hv)) (c + (q + 1)))) := by
      rw [hst, ← from_j, ← from_c]; exact hpr
    rw [hpr']
    dsimp only
    rw [from_j] at hi
    have hil : i < L.length := by
      have h1 := (List.getElem?_eq_some_iff.mp hi).1
      have h2 := X.tab.sz
      rw [List.length_map] at h2
      rw [Array.length_toList] at h1
      omega
    obtain ⟨p, hp⟩ : ∃ p, L[i]? = some p := ⟨_, List.getElem?_eq_getElem hil⟩
    have hmem := List.mem_of_getElem? hp
    obtain ⟨b, hpb, hpt⟩ := X.el p hmem
    have he : es[i]? = some (thS P w p.1, Value.ref b) := by rw [row_at R.rows hp, hpb]
    have go : wpAny (model P w) A (searchRest a (.ref x) hv true f es t (way t.mask hv (c + q)) i (nth t.mask (runAt t.mask (SetTable.bits hv % (t.mask + 1)) (SetTable.bits hv)) (c + (q + 1)))) Q E s := by
      unfold searchRest
      rw [he]
      dsimp only
      refine wpAny_bind (wpAny_holding (wpAny_eqBool_tuple hu hpt hx (wpAny_bind (wpAny_setState_of ho hd R.fits ?_))))
      dsimp only
      by_cases hkk : p.1 = k
      · exact wp_if_pos (by simp [hkk]) (wpAny_pure (yes (List.mem_map.mpr ⟨p, hmem, hkk⟩)))
      · refine wp_if_neg (by simp [hkk]) ?_
        try refine wpAny_bind (wpAny_pure ?_)
        have same : t.sameMemory t.moves t.mask = some true := by unfold SetTable.sameMemory; rw [if_pos (beq_self_eq_true _)]
        rw [same]
        dsimp only
        have hsl : t.slot (way t.mask hv (c + q)) = .live i := slot_live X.tab.ris hi
        simp only [if_true, hsl, he]
        refine wpAny_bind (wpAny_isSame_ref_self (wpAny_bind (wpAny_pure ?_)))
        simp only [if_true]
        refine wp_if_neg (by simp [hkk]) (ih (K - (c + (q + 1))) (by omega) f (c + (q + 1)) _ rfl (by omega) (by omega) rfl fun i0 p0 h0 hk0 => ?_)
        obtain ⟨c', a1, a2, a3⟩ := hre i0 p0 h0 hk0
        refine ⟨c', ?_, a2, a3⟩
        rcases Nat.lt_trichotomy c' (c + q) with z | z | z
        · refine absurd ((hash_i i0 p0 h0).trans ((congrArg (thS P w) hk0).trans hH)) (hno (c' - c) i0 (by omega) ?_)
          rw [from_j, show c + (c' - c) = c' by omega]; exact a3
        · rw [z] at a3
          have s0 := slot_live X.tab.ris a3
          rw [hsl] at s0
          injection s0 with s0
          rw [← s0, hp] at h0
          exact absurd ((congrArg Prod.fst (Option.some.inj h0)).trans hk0) hkk
        · omega
    by_cases hl : t.led = true
    · refine wp_if_neg (by simp [hl]) ?_
      try refine wpAny_bind (wpAny_pure ?_)
      exact go
    · refine wp_if_pos (by simp [hl]) (wpAny_bind (unseen_tup hx (fun y hy => ?_) ?_))
      · obtain ⟨e, he', ee⟩ := List.mem_map.mp hy
        have he1 : e ∈ es ∧ e.1 = hv := by simpa using he'
        have he2 : e ∈ es.toList := by simpa using he1.1
        rw [R.rows] at he2
        obtain ⟨p2, hp2, e2⟩ := List.mem_map.mp he2
        obtain ⟨b2, hb2, ht2⟩ := X.el p2 hp2
        exact ⟨p2.1, b2, by rw [← ee, ← e2]; exact hb2, ht2⟩
      · refine wp_if_neg (by decide) ?_
        try refine wpAny_bind (wpAny_pure ?_)
        exact go
  · have hpr' : t.probe (fun i => (es[i]?.map (·.1)).getD 0) hv (st.getD (t.probeStart hv)) = some (.empty (way t.mask hv K) none) := by
      have e2 : way t.mask hv K = (nth t.mask (nth t.mask (runAt t.mask (SetTable.bits hv % (t.mask + 1)) (SetTable.bits hv)) c) (K - c)).j := by rw [from_j, K']
      rw [hst, e2]; exact hpr
    rw [hpr']
    dsimp only
    refine wpAny_pure (no fun hm => ?_)
    obtain ⟨p0, h0, hk0⟩ := List.mem_map.mp hm
    obtain ⟨i0, h00⟩ := List.mem_iff_getElem?.mp h0
    obtain ⟨c', a1, a2, a3⟩ := hre i0 p0 h00 hk0
    refine hno (c' - c) i0 (by omega) ?_ ((hash_i i0 p0 h00).trans ((congrArg (thS P w) hk0).trans hH))
    rw [from_j, show c + (c' - c) = c' by omega]; exact a3
end
end
end Vk

set_option Elab.async false
set_option linter.all false
set_option maxRecDepth 100000
set_option maxHeartbeats 4000000
/-! Sets of tuples of texts: adding; set(xs) and sorted(set) for both kinds. -/
namespace Vk
open PySem PyProof.Rows L2
theorem all_range {α : Type} : ∀ L : List α, (List.range L.length).filterMap (fun i => L[i]?) = L
  | [] => rfl
  | x :: L => by
    rw [List.length_cons, List.range_succ_eq_map, List.filterMap_cons, List.filterMap_map]
    exact congrArg (x :: ·) (all_range L)
theorem ordered {κ : Type} {hs : κ → Int} {L : List (κ × Value)} {es : Array (Int × Value)} (order : Array Nat) (h : es.toList = L.map fun p => (hs p.1, p.2)) (hp : order.toList.Perm (List.range L.length)) :
    ∃ L2 : List (κ × Value), (order.filterMap (es[·]?)).toList = L2.map (fun p => (hs p.1, p.2)) ∧ L2.Perm L ∧ (L2.map fun p => hs p.1) = order.toList.map fun i => (es.map (·.1)).getD i 0 := by
  have ent : ∀ i : Nat, es[i]? = (L[i]?).map fun p => (hs p.1, p.2) := fun i => by rw [← Array.getElem?_toList, h, List.getElem?_map]
  refine ⟨order.toList.filterMap (fun i => L[i]?), ?_, ?_, ?_⟩
  · rw [Array.toList_filterMap, List.map_filterMap]
    congr 1
    funext i
    exact ent i
  · have := hp.filterMap fun i => L[i]?
    rw [all_range] at this
    exact this
  · have hlt : ∀ i ∈ order.toList, i < L.length := fun i hi => List.mem_range.mp (hp.mem_iff.mp hi)
    generalize order.toList = l at hlt
    induction l with
    | nil => rfl
    | cons i l ih =>
      have hi := hlt i List.mem_cons_self
      have e0 : L[i]? = some L[i] := List.getElem?_eq_getElem hi
      rw [List.filterMap_cons_some e0, List.map_cons, List.map_cons, ih fun j hj => hlt j (List.mem_cons_of_mem _ hj)]
      congr 1
      have : (es.map (·.1))[i]? = some (hs L[i].1) := by rw [Array.getElem?_map, ent i, e0]; rfl
      rw [Array.getD_eq_getD_getElem?, this]; rfl
theorem put_rows {κ : Type} {hs : κ → Int} (L : List (κ × Value)) (p : Nat) (q : κ × Value) : (L.take p ++ q :: L.drop p).map (fun p => (hs p.1, p.2)) = (L.map fun p => (hs p.1, p.2)).take p ++ (hs q.1, q.2) :: (L.map fun p => (hs p.1, p.2)).drop p := by
  rw [List.map_append, List.map_cons, List.map_take, List.map_drop]
section
variable {P : Program} {w : World} {A : Around} {E : Value → Shared → Prop} {s : Shared} {a : Addr} {L : List (Ks × Value)} {es : Array (Int × Value)} {ep : Nat} {t : SetTable}
/-- a tuple stays where a set changes -/
theorem isK_same {h h' : Heap} {k : Ks} {b : Addr} {o : Obj} {es : Array (Int × Value)} {ep : Nat} {t : SetTable} (hb : IsK P w h k b) (ho : h.get? a = some o) (hd : o.data = .set es ep t) (hs : Heap.SameBut a h h') : IsK P w h' k b := by
  obtain ⟨o', items, n, ho', hc, hd', hi⟩ := hb
  by_cases e : b = a
  · rw [e] at ho'
    have : o' = o := Option.some.inj (ho'.symm.trans ho)
    rw [this, hd] at hd'
    cases hd'
  · exact ⟨o', items, n, (hs.2 b e).trans ho', hc, hd', hi⟩
/-- the set at a has these tuples of texts -/
def ST (P : Program) (w : World) (h : Heap) (a : Addr) (L : List (Ks × Value)) : Prop := ∃ es ep t, SR w (thS P w) h a L es ep t ∧ Tps P w h L t
theorem search_tup (R : SR w (thS P w) s.heap a L es ep t) (X : Tps P w s.heap L t) {x : Addr} {k : Ks} (hx : IsK P w s.heap k x) (hu : A.units < cLine) {Q : SetFound → Shared → Prop}
    (yes : k ∈ L.map (·.1) → Q (.there none) s)
    (no : ∀ K, k ∉ L.map (·.1) → way t.mask (thS P w k) K ∉ t.place.toList → (∀ c, c < K → way t.mask (thS P w k) c ∈ t.place.toList) → Q (.free (way t.mask (thS P w k) K) false) s) :
    wpAny (model P w) A (setSearch a (.ref x) (thS P w k) true) Q E s := by
  have room := X.room
  obtain ⟨K, hKf, hK, hKb⟩ := X.tab.first (by rw [List.length_map]; omega) (thS P w k)
  have small : K < 100000 := by
    have : 10 * SetTable.turns t.mask ≤ 1420 := by
      unfold SetTable.turns
      rcases X.tab.mok with e | e | e <;> omega
    omega
  unfold setSearch
  refine find_from R X hx hu hKf hK hKb yes (fun hn => no K hn hK hKb) K 100000 0 none (Nat.sub_zero K) small (Nat.zero_le _) rfl fun i p hp hk => ?_
  have hi : (L.map fun p => thS P w p.1)[i]? = some (thS P w k) := by rw [List.getElem?_map, hp, ← hk]; rfl
  have hil : i < t.place.toList.length := by
    have h1 := (List.getElem?_eq_some_iff.mp hp).1
    have h2 := X.tab.sz
    rw [List.length_map] at h2
    rw [Array.length_toList]; omega
  obtain ⟨c, hc, e⟩ := X.tab.before hK hi (List.getElem?_eq_getElem hil)
  exact ⟨c, Nat.zero_le _, hc, (List.getElem?_eq_getElem hil).trans (congrArg some e.symm)⟩
/-- laid anew, in a larger table -/
theorem relay_tup {o : Obj} (ho : s.heap.get? a = some o) (hex : o.ExactSet) (hd : o.data = .set es ep t) (hr : es.toList = L.map fun p => (thS P w p.1, p.2)) (hf : t.fits es.size = true)
    (nd : (L.map (·.1)).Nodup) (el : ∀ p ∈ L, ∃ b, p.2 = Value.ref b ∧ IsK P w s.heap p.1 b) (ld : w.params.followText "set-order" = true ∨ t.led = true) (few : L.length < 64) {wanted M : Nat}
    (hw : SetTable.sizeAbove wanted - 1 = M) (hM : MaskOk M) (hw2 : SetTable.sizeAbove wanted ≤ 128) (hn : L.length * 5 < M * 3) {Q : Unit → Shared → Prop}
    (hQ : ∀ h' L', Heap.SameBut a s.heap h' → ST P w h' a L' → L'.Perm L → Q () { s with heap := h' }) : wpAny (model P w) A (setRelay a wanted) Q E s := by
  have hsl := rows_size hr
  obtain ⟨t', order, e, hp, T, em, elt, _, _⟩ := relaid_ok t (hs := es.map (·.1)) (wanted := wanted) hw hM (by rw [Array.size_map, hsl]; omega)
  rw [Array.size_map, hsl] at hp
  obtain ⟨L2, r1, r2, r3⟩ := ordered (hs := thS P w) order hr hp
  rw [← r3] at T
  have hs2 : (order.filterMap (es[·]?)).size = L2.length := rows_size r1
  have hl2 := r2.length_eq
  rw [setRelay_eq]
  refine wpAny_bind (wpAny_setState_of ho hd hf ?_)
  dsimp only
  refine wp_if_neg (by rw [sizeLine_eq]; omega) ?_
  try refine wpAny_bind (wpAny_pure ?_)
  rw [e]
  dsimp only
  refine wpAny_bind (wp_if_neg (by rw [hs2, hl2, hsl]; simp) ?_)
  try refine wpAny_bind (wpAny_pure ?_)
  refine wpAny_pure ?_
  dsimp only
  have sb : Heap.SameBut a s.heap (s.heap.update a (Obj.putSet (order.filterMap (es[·]?)) t')) := Heap.SameBut.update ..
  refine wpAny_storeSet_of ho hd (hQ _ L2 sb ⟨order.filterMap (es[·]?), ep + 1, t', ⟨⟨_, store_at ho hd, hex, rfl⟩, r1, ?_, T.ris, by rw [elt]; exact ld, (r2.map _).nodup_iff.mpr nd, by rw [hl2]; exact few⟩, ⟨fun p hpm => ?_, T, by rw [hl2, em]; exact hn⟩⟩ r2) (by rw [hs2, hl2, sizeLine_eq]; omega)
  · unfold SetTable.fits SetTable.fill
    have z := T.sz
    rw [List.length_map] at z
    rw [T.dm, Bool.and_eq_true, beq_iff_eq, decide_eq_true_eq, hs2, z, em]
    refine ⟨rfl, ?_⟩
    show L2.length + 0 ≤ M
    omega
  · obtain ⟨b, e1, e2⟩ := el p (r2.mem_iff.mp hpm)
    exact ⟨b, e1, isK_same e2 ho hd sb⟩
/-- a tuple of texts is added -/
theorem add_tup (S : ST P w s.heap a L) {x : Addr} {k : Ks} (hx : IsK P w s.heap k x) (hu : A.units < cLine) (hfew : L.length + 1 < 64) {Q : Bool → Shared → Prop}
    (hQ : ∀ b h' L', Heap.SameBut a s.heap h' → ST P w h' a L' → (k ∈ L.map (·.1) → L' = L) → (k ∉ L.map (·.1) → L'.Perm ((k, .ref x) :: L)) → Q b { s with heap := h' }) :
    wpAny (model P w) A (setAddHashed a (.ref x) (thS P w k)) Q E s := by
  obtain ⟨es, ep, t, R, X⟩ := id S
  obtain ⟨o, ho, hex, hd⟩ := R.ob
  have hsl := R.size
  have room := X.room
  unfold setAddHashed
  refine wpAny_holding ?_
  rw [show (100000 : Nat) = 99999 + 1 from rfl, setAddHashedIn_succ]
  refine wpAny_bind (wpAny_setState_of ho hd R.fits ?_)
  dsimp only
  refine wp_if_neg (by simp [byScan, Value.scannable]) ?_
  try refine wpAny_bind (wpAny_pure ?_)
  refine wpAny_bind (search_tup R X hx hu (fun hm => ?_) fun K hm hK hb => ?_)
  · dsimp only
    exact wpAny_pure (hQ false s.heap L (Heap.SameBut.refl a s.heap) S (fun _ => rfl) fun z => absurd hm z)
  · dsimp only
    refine wpAny_bind (wpAny_setState_of ho hd R.fits ?_)
    dsimp only
    obtain ⟨q1, q2, q3, q4, q5, q6, q7, q8, q9⟩ := X.tab.put hK hb
    generalize t.put (way t.mask (thS P w k) K) = pt at q1 q3 q4 q5 q6 q7 q8 q9 ⊢
    obtain ⟨t1, p⟩ := pt
    dsimp only at q1 q3 q4 q5 q6 q7 q8 q9 ⊢
    subst q1
    generalize hpp : SetTable.below t.place (way t.mask (thS P w k) K) = p at q2 q3 ⊢
    have hin : (SetTable.insertAt es p (thS P w k, Value.ref x)).toList = (L.take p ++ (k, Value.ref x) :: L.drop p).map fun p => (thS P w p.1, p.2) := by
      rw [SetTable.toList_insertAt, put_rows, R.rows]
    have pm := put_perm L p (k, Value.ref x)
    have hhs : (L.take p ++ (k, Value.ref x) :: L.drop p).map (fun p => thS P w p.1) = (L.map fun p => thS P w p.1).take p ++ thS P w k :: (L.map fun p => thS P w p.1).drop p := by
      rw [List.map_append, List.map_cons, List.map_take, List.map_drop]
    rw [← hhs] at q3
    generalize SetTable.insertAt es p (thS P w k, Value.ref x) = es1 at hin ⊢
    generalize L.take p ++ (k, Value.ref x) :: L.drop p = L1 at pm q3 hin
    have hlen : L1.length = L.length + 1 := pm.length_eq
    have nd1 : (L1.map (·.1)).Nodup := (pm.map _).nodup_iff.mpr (List.nodup_cons.mpr ⟨hm, R.nd⟩)
    have hes : es1.size = L1.length := rows_size hin
    -- whatever the word on plain is
    have go : ∀ t2 : SetTable, t2.place = t1.place → t2.dummies = t1.dummies → t2.mask = t1.mask → t2.led = t1.led → wpAny (model P w) A (do
        storeSet a es1 t2
        if (!false && t2.tooFull) = true then setRelay a (SetTable.grown (es.size + 1))
        return true) Q E s := by
      intro t2 f1 f2 f3 f4
      have T2 : TabOk t2 (L1.map fun p => thS P w p.1) := by
        refine ⟨by rw [f1]; exact q3.ris, by rw [f2]; exact q3.dm, by rw [f1]; exact q3.sz, by rw [f3]; exact q3.mok, by rw [f1, f3]; exact q3.bd, ?_⟩
        rw [f1, f3]; exact q3.reach
      have m2 : t2.mask = t.mask := f3.trans q4
      have fit2 : t2.fits es1.size = true := by
        unfold SetTable.fits SetTable.fill
        have z := T2.sz
        rw [List.length_map] at z
        rw [T2.dm, Bool.and_eq_true, beq_iff_eq, decide_eq_true_eq, hes, z, m2]
        refine ⟨rfl, ?_⟩
        show L1.length + 0 ≤ t.mask
        rcases X.tab.mok with e | e | e <;> omega
      have full : t2.tooFull = decide (L1.length * 5 ≥ t.mask * 3) := by
        unfold SetTable.tooFull SetTable.fill
        have z := T2.sz
        rw [List.length_map] at z
        rw [z, T2.dm, m2]; rfl
      refine wpAny_bind (wpAny_storeSet_of ho hd ?_ (by rw [hes, sizeLine_eq]; omega))
      have sb : Heap.SameBut a s.heap (s.heap.update a (Obj.putSet es1 t2)) := Heap.SameBut.update ..
      have ho1 := store_at (es' := es1) (t' := t2) ho hd
      generalize s.heap.update a (Obj.putSet es1 t2) = h1 at sb ho1 ⊢
      have el1 : ∀ p ∈ L1, ∃ b, p.2 = Value.ref b ∧ IsK P w h1 p.1 b := fun p hp => by
        rcases List.mem_cons.mp (pm.mem_iff.mp hp) with e | hp
        · rw [e]; exact ⟨x, rfl, isK_same hx ho hd sb⟩
        · obtain ⟨b, e1, e2⟩ := X.el p hp
          exact ⟨b, e1, isK_same e2 ho hd sb⟩
      have ld1 : w.params.followText "set-order" = true ∨ t2.led = true := by rw [f4, q5]; exact R.led
      rw [full]
      by_cases hf : L1.length * 5 ≥ t.mask * 3
      · refine wp_if_pos (by simp only [Bool.not_false, Bool.true_and]; exact decide_eq_true hf) (wpAny_bind ?_)
        have two : (t.mask = 7 ∧ L.length = 4) ∨ (t.mask = 31 ∧ L.length = 18) := by
          rcases X.tab.mok with e | e | e
          · left; omega
          · right; omega
          · exfalso; omega
        have last : ∀ M, SetTable.sizeAbove (SetTable.grown (L.length + 1)) - 1 = M → MaskOk M → SetTable.sizeAbove (SetTable.grown (L.length + 1)) ≤ 128 → (L.length + 1) * 5 < M * 3 →
            wpAny (model P w) A (setRelay a (SetTable.grown (es.size + 1))) (fun _ s' => wpAny (model P w) A (pure true) Q E s') E { s with heap := h1 } := fun M z1 z2 z3 z4 => by
          rw [hsl]
          refine relay_tup (s := { s with heap := h1 }) ho1 hex rfl hin fit2 nd1 el1 ld1 (by omega) z1 z2 z3 (by rw [hlen]; exact z4) fun h2 L2 sb2 R2 pm2 => ?_
          exact wpAny_pure (hQ true h2 L2 (sb.trans sb2) R2 (fun z => absurd z hm) fun _ => pm2.trans pm)
        rcases two with ⟨_, e2⟩ | ⟨_, e2⟩
        · exact last 31 (by rw [e2, size_20]) (.inr (.inl rfl)) (by rw [e2, size_20]; decide) (by omega)
        · exact last 127 (by rw [e2, size_76]) (.inr (.inr rfl)) (by rw [e2, size_76]; decide) (by omega)
      · refine wp_if_neg (by simp only [Bool.not_false, Bool.true_and]; exact fun z => hf (of_decide_eq_true z)) ?_
        exact wpAny_pure (hQ true h1 L1 sb ⟨es1, ep + 1, t2, ⟨⟨_, ho1, hex, rfl⟩, hin, fit2, T2.ris, ld1, nd1, by omega⟩, ⟨el1, T2, by rw [m2]; omega⟩⟩ (fun z => absurd z hm) fun _ => pm)
    by_cases hpl : t1.plain = true
    · refine wp_if_pos hpl (wpAny_bind (plain_tup hx fun c => ?_))
      cases c
      · exact go { t1 with plain := false } rfl rfl rfl rfl
      · exact go t1 rfl rfl rfl rfl
    · refine wp_if_neg hpl (wpAny_bind (wpAny_pure ?_))
      exact go t1 rfl rfl rfl rfl
end
end Vk

set_option Elab.async false
set_option linter.all false
set_option maxRecDepth 100000
set_option maxHeartbeats 4000000
/-! set(xs), sorted(set) for texts and tuples of texts (printed by vkset3.py). -/
namespace Vk
open PySem PyProof.Rows L2
theorem nodup_le {α : Type} [DecidableEq α] : ∀ (l U : List α), l.Nodup → (∀ x ∈ l, x ∈ U) → l.length ≤ U.length
  | [], _, _, _ => Nat.zero_le _
  | x :: l, U, nd, h => by
    obtain ⟨n1, n2⟩ := List.nodup_cons.mp nd
    have hx := h x List.mem_cons_self
    have ih := nodup_le l (U.erase x) n2 fun y hy => (List.mem_erase_of_ne (a := y) (b := x) (fun z => n1 (by rw [← z]; exact hy))).mpr (h y (List.mem_cons_of_mem _ hy))
    rw [List.length_erase_of_mem hx] at ih
    have := List.length_pos_of_mem hx
    rw [List.length_cons]
    omega
/-- a kind of things in sets -/
structure El (P : Program) (w : World) where
  κ : Type
  dec : DecidableEq κ
  It : Heap → κ → Value → Prop
  G : Heap → Addr → List (κ × Value) → Prop
  enc : κ → PyData
  keepI : ∀ {h h' : Heap} {k v}, It h k v → (∀ c o, h.get? c = some o → h'.get? c = some o) → It h' k v
  keepG : ∀ {h h' : Heap} {a L}, G h a L → (∀ o, h.get? a = some o → h'.get? a = some o) → (∀ p ∈ L, It h' p.1 p.2) → G h' a L
  fresh : ∀ {h : Heap} {a}, h.get? a = some (newSetO w) → G h a []
  ob : ∀ {h : Heap} {a L}, G h a L → ∃ hs es ep t, SR w hs h a L es ep t
  add : ∀ {A : Around} {E : Value → Shared → Prop} {s : Shared} {a : Addr} {L : List (κ × Value)} {k : κ} {v : Value} {Q : Unit → Shared → Prop}, A.units < cLine → G s.heap a L → It s.heap k v → L.length + 1 < 64 →
    (∀ h' tk L', s.toks ≤ tk → Heap.SameBut a s.heap h' → G h' a L' → (k ∈ L.map (·.1) → L' = L) → (k ∉ L.map (·.1) → L'.Perm ((k, v) :: L)) → Q () { s with heap := h', toks := tk }) →
    wpAny (model P w) A (setAdd a v) (fun _ s' => Q () s') E s
section
variable {P : Program} {w : World}
def elS (P : Program) (w : World) : El P w where
  κ := Str
  dec := inferInstance
  It := fun _ k v => ∃ u, v = Value.str k u
  G := fun h a L => ∃ es ep t, SR w (hashStr w) h a L es ep t ∧ Txts L
  enc := PyData.str
  keepI := fun h _ => h
  keepG := fun ⟨es, ep, t, R, x⟩ ha _ => ⟨es, ep, t, R.at ha, x⟩
  fresh := fun h => ⟨#[], 0, _, sr_new h, fun p hp => by cases hp⟩
  ob := fun ⟨es, ep, t, R, _⟩ => ⟨_, es, ep, t, R⟩
  add := fun {A E s a L k v Q} hu ⟨es, ep, t, R, x⟩ hi hf h => by
    obtain ⟨u, rfl⟩ := hi
    unfold setAdd
    refine wpAny_holding (wpAny_bind (wpAny_pyHash_str (s := s) ?_))
    refine add_txt (P := P) (s := { s with toks := s.toks + 1 }) R x hf fun b h' L' es' ep' t' sb R' c1 c2 => ?_
    refine h h' (s.toks + 1) L' (Nat.le_succ _) sb ⟨es', ep', t', R', ?_⟩ c1 c2
    intro p hp
    by_cases c : k ∈ L.map (·.1)
    · rw [c1 c] at hp; exact x p hp
    · rcases List.mem_cons.mp ((c2 c).mem_iff.mp hp) with e | hp
      · rw [e]; exact ⟨u, rfl⟩
      · exact x p hp
theorem isK_keep {h h' : Heap} {k : Ks} {b : Addr} (x : IsK P w h k b) (hk : ∀ c o, h.get? c = some o → h'.get? c = some o) : IsK P w h' k b := by
  obtain ⟨o, items, n, ho, r⟩ := x
  exact ⟨o, items, n, hk b o ho, r⟩
def elT (P : Program) (w : World) : El P w where
  κ := Ks
  dec := inferInstance
  It := fun h k v => ∃ b, v = Value.ref b ∧ IsK P w h k b
  G := fun h a L => ST P w h a L
  enc := dT
  keepI := fun ⟨b, e, x⟩ hk => ⟨b, e, isK_keep x hk⟩
  keepG := fun ⟨es, ep, t, R, X⟩ ha hi => ⟨es, ep, t, R.at ha, ⟨hi, X.tab, X.room⟩⟩
  fresh := fun h => ⟨#[], 0, _, sr_new h, ⟨fun p hp => (by cases hp), ⟨List.Pairwise.nil, rfl, rfl, .inl rfl, fun x hx => (by cases hx), fun i h j hi => (by simp at hi)⟩, by show 0 * 5 < 7 * 3; decide⟩⟩
  ob := fun ⟨es, ep, t, R, _⟩ => ⟨_, es, ep, t, R⟩
  add := fun {A E s a L k v Q} hu S hi hf h => by
    obtain ⟨b, rfl, x⟩ := hi
    unfold setAdd
    refine wpAny_holding (wpAny_bind (wpAny_pyHash_tuple hu x ?_))
    refine add_tup (s := { s with toks := s.toks + (k.length + 1) }) S x hu hf fun b h' L' sb R' c1 c2 => ?_
    exact h h' _ L' (Nat.le_add_right _ _) sb R' c1 c2
end
section
variable {P : Program} {w : World} {A : Around} {E : Value → Shared → Prop} {s : Shared} (e : El P w)
/-- what has come in from the first i -/
structure In1 {κ : Type} (ks : List (κ × Value)) (i : Nat) (L : List (κ × Value)) : Prop where
  sub : ∀ p ∈ L, p ∈ ks.take i
  all : ∀ p ∈ ks.take i, p.1 ∈ L.map (·.1)
theorem In1.zero {κ : Type} (ks : List (κ × Value)) : In1 ks 0 [] := ⟨fun p h => (by cases h), fun p h => (by simp at h)⟩
theorem In1.same {κ : Type} {ks L : List (κ × Value)} {i : Nat} {x : κ × Value} (g : In1 ks i L) (h : ks[i]? = some x) (hm : x.1 ∈ L.map (·.1)) : In1 ks (i + 1) L := by
  refine ⟨fun p hp => ?_, fun p hp => ?_⟩
  · rw [take_next h]; exact List.mem_append_left _ (g.sub p hp)
  · rw [take_next h] at hp
    rcases List.mem_append.mp hp with z | z
    · exact g.all p z
    · rw [List.mem_singleton.mp z]; exact hm
theorem In1.more {κ : Type} {ks L L' : List (κ × Value)} {i : Nat} {x : κ × Value} (g : In1 ks i L) (h : ks[i]? = some x) (pm : L'.Perm (x :: L)) : In1 ks (i + 1) L' := by
  refine ⟨fun p hp => ?_, fun p hp => ?_⟩
  · rw [take_next h]
    rcases List.mem_cons.mp (pm.mem_iff.mp hp) with e | z
    · rw [e]; exact List.mem_append_right _ (List.mem_singleton.mpr rfl)
    · exact List.mem_append_left _ (g.sub p z)
  · rw [(pm.map (·.1)).mem_iff, List.map_cons]
    rw [take_next h] at hp
    rcases List.mem_append.mp hp with z | z
    · exact List.mem_cons_of_mem _ (g.all p z)
    · rw [List.mem_singleton.mp z]; exact List.mem_cons_self
/-- few enough, however they come -/
def Few {κ : Type} (ks : List κ) : Prop := ∃ U : List κ, U.length < 62 ∧ ∀ k ∈ ks, k ∈ U
include e in
theorem up_loop {I : Addr} {fp wr : List Addr} {G : Array GenState → Array GenState → Prop} {n : Nat} {Pv : Nat → Value → Prop} {St : Nat → Shared → Prop} {R : Result → Shared → Prop}
    (W : WalksS P w A.in1 I fp wr G n Pv St) (S : Addr) (hSf : S ∉ fp) (ks : List (e.κ × Value)) (hn : n = ks.length) (few : Few (ks.map (·.1))) (hval : ∀ i v, Pv i v → ∃ p, ks[i]? = some p ∧ v = p.2)
    (h0 : Heap) (hk : ∀ p ∈ ks, e.It h0 p.1 p.2) (hS0 : h0.get? S = none) (hw0 : ∀ b ∈ wr, h0.get? b = none) (hu : A.in1.units < cLine) :
    ∀ (k i : Nat) (s : Shared), n - i = k → i ≤ n → St i s → (∀ b o, h0.get? b = some o → s.heap.get? b = some o) → (∃ L, e.G s.heap S L ∧ In1 ks i L) →
      (∀ s' L, Moved (S :: wr) G s s' → e.G s'.heap S L → In1 ks n L → (∀ b o, h0.get? b = some o → s'.heap.get? b = some o) → R (.ok (.ret .none)) s') →
      codeAny (model P w) A (.builtin "set.update.loop" ⟨[.ref S, .ref I], []⟩) R s := by
  have hSw : S ∉ wr := fun h => hSf (W.sub _ h)
  have more : ∀ b ∈ wr, b ∈ S :: wr := fun b hb => List.mem_cons_of_mem _ hb
  have old : ∀ {s s' : Shared}, Moved wr G s s' → (∀ b o, h0.get? b = some o → s.heap.get? b = some o) → ∀ b o, h0.get? b = some o → s'.heap.get? b = some o := fun hm hkp b o z =>
    hm.heap b o (fun hb => by rw [hw0 b hb] at z; cases z) (hkp b o z)
  intro k
  induction k with
  | zero =>
    intro i s hk' hi hst hkp ⟨L, hS, g⟩ hR
    have hin : i = n := by omega
    subst hin
    refine codeAny_builtin F.entry_set_update_loop ?_
    rw [Around.under_plainId F.plain_set_update_loop _]
    show wpAny _ A.in1 (pyNext (.ref I) >>= _) _ _ s
    refine wpAny_bind (W.done s _ _ hst fun s' hm => ?_)
    show wpAny _ A.in1 (ret Value.none) _ _ s'
    have hkp' := old hm hkp
    exact wpAny_pure (hR s' L (hm.mono more) (e.keepG hS (fun o z => hm.heap S o hSw z) fun p hp => e.keepI (hk p (List.mem_of_mem_take (g.sub p hp))) hkp') g hkp')
  | succ k ih =>
    intro i s hk' hi hst hkp ⟨L, hS, g⟩ hR
    have hlt : i < n := by omega
    refine codeAny_builtin F.entry_set_update_loop ?_
    rw [Around.under_plainId F.plain_set_update_loop _]
    show wpAny _ A.in1 (pyNext (.ref I) >>= _) _ _ s
    refine wpAny_bind (W.item i s _ _ hlt hst fun v s' hP hst' hm => ?_)
    obtain ⟨p, hp, rfl⟩ := hval i v hP
    have hkp' := old hm hkp
    have hS' : e.G s'.heap S L := e.keepG hS (fun o z => hm.heap S o hSw z) fun q hq => e.keepI (hk q (List.mem_of_mem_take (g.sub q hq))) hkp'
    show wpAny _ A.in1 (holding [p.2] (setAdd S p.2) >>= _) _ _ s'
    have room : L.length + 1 < 64 := by
      obtain ⟨U, hU, hin⟩ := few
      obtain ⟨hs, es, ep, t, r⟩ := e.ob hS
      have := @nodup_le e.κ e.dec (L.map (·.1)) U r.nd fun x hx => by
        obtain ⟨q, hq, z⟩ := List.mem_map.mp hx
        exact hin x (List.mem_map.mpr ⟨q, List.mem_of_mem_take (g.sub q hq), z⟩)
      rw [List.length_map] at this
      omega
    refine wpAny_bind (wpAny_holding (wpAny_mono (e.add (Q := fun _ s2 => ∃ h' tk L', s'.toks ≤ tk ∧ Heap.SameBut S s'.heap h' ∧ e.G h' S L' ∧ In1 ks (i + 1) L' ∧ s2 = { s' with heap := h', toks := tk }) hu hS' (e.keepI (hk p (List.mem_of_getElem? hp)) hkp') room fun h' tk L' ht hsb hS2 c1 c2 => ?_) (fun _ s2 z => ?_) fun _ _ z => z))
    · refine ⟨h', tk, L', ht, hsb, hS2, ?_, rfl⟩
      rcases Classical.em (p.1 ∈ L.map (·.1)) with c | c
      · rw [c1 c]; exact g.same hp c
      · exact g.more hp (c2 c)
    · obtain ⟨h', tk, L', ht, hsb, hS2, g', rfl⟩ := z
      have hkp2 : ∀ b o, h0.get? b = some o → h'.get? b = some o := fun b o z => (hsb.2 b (fun q => by rw [q, hS0] at z; cases z)).trans (hkp' b o z)
      refine wpAny_pure ⟨plainId_quiet F.plain_set_update_loop _, ih (i + 1) _ (by omega) hlt (W.frame _ s' _ _ hst' ht fun b hb o z => ?_) hkp2 ⟨L', hS2, g'⟩ fun s'' L2 hm'' hS'' g'' hkp'' => ?_⟩
      · rw [hsb.2 b (fun h : b = S => hSf (by rw [← h]; exact hb))]; exact z
      · refine hR s'' L2 (Moved.trans W.gtrans ((hm.mono more).then_heap ht fun b o hb z => ?_) hm'') hS'' g'' hkp''
        rw [hsb.2 b (fun h : b = S => hb (by rw [h]; exact List.mem_cons_self))]; exact z

include e in
set_option maxRecDepth 100000 in
set_option maxHeartbeats 3200000 in
/-- set(xs), xs a list -/
theorem call_set_list {l : Addr} {items : Array Value} (ks : List (e.κ × Value)) {Q : Value → Shared → Prop} (hh : A.handled = none) (hl : s.heap.IsList l items) (hit : items.toList = ks.map (·.2))
    (hk : ∀ p ∈ ks, e.It s.heap p.1 p.2) (few : Few (ks.map (·.1))) (hu : A.units + 3 < cLine)
    (h : ∀ (h' : Heap) (tk : Nat) L, e.G h' s.heap.objs.size L → In1 ks ks.length L → (∀ b o, s.heap.get? b = some o → h'.get? b = some o) → Q (.ref s.heap.objs.size) { s with heap := h', toks := tk }) :
    wpAny (model P w) A (call (.type "set") [.ref l]) Q E s := by
  have hisz : items.size = ks.length := by
    have q := congrArg List.length hit
    rw [Array.length_toList, List.length_map] at q
    exact q
  obtain ⟨c, tl, hmro⟩ := F.called_set.mro
  have hmade := F.called_set.made
  have hsub := F.called_set.sub
  refine wpAny_call (codeAny_of_tree ?_)
  show wpAny _ _ (callAny (.type "set") _) _ _ _
  refine wpAny_pure ⟨Code.quiet_builtin _ (by decide +kernel), codeAny_builtin F.entry_type_call ?_⟩
  rw [Around.under_plain (weight_type_call_type "set" [.ref l] []) rfl]
  have h1 := F.called_set.notType
  have h2 := F.called_set.canCreate
  have hct := F.typeCall_set_1 (.ref l)
  repeat (any_goals (first | assumption | wp_step))

  refine codeAny_mono (code_set_led1 (.ref l) (E := E) (Q₁ := fun obj s₁ => obj = .ref s.heap.objs.size ∧ s₁ = { s with heap := s.heap.push (newSetO w) }) ⟨rfl, rfl⟩) fun r s₁ hr => ?_
  cases r with
  | error e => exact hr
  | ok fl =>
    cases fl with
    | ret obj =>
      obtain ⟨rfl, rfl⟩ := hr
      have hS : (s.heap.push (newSetO w)).get? s.heap.objs.size = some (newSetO w) := Heap.get?_push_size _ rfl
      have hT : Shared.TypeIs { s with heap := s.heap.push (newSetO w) } (.ref s.heap.objs.size) "set" := ⟨_, hS, rfl⟩
      have hli := F.called_set.init.lookup
      have hbi := F.called_set.init.bind (.ref s.heap.objs.size)
      repeat (any_goals (first | assumption | wp_step))

      refine codeAny_mono (codeAny_call_builtin (R := wants (fun r s₂ => r = .none ∧ ∃ h' tk L, s₂ = { s with heap := h', toks := tk } ∧ e.G h' s.heap.objs.size L ∧ In1 ks ks.length L ∧
          (∀ b o, s.heap.get? b = some o → h'.get? b = some o)) E) F.called_set.init.plain F.entry_set_init (check_set_init_1 hT ?_)) fun r₂ s₂ hr₂ => ?_
      · obtain ⟨ol, hol, hcl, nl, hdl⟩ := hl
        obtain ⟨ocls, odict, odata, oslots⟩ := ol
        simp only at hcl hdl
        subst hcl; subst hdl
        have hol' : (s.heap.push (newSetO w)).get? l = some { cls := .type "list", dict := odict, data := .seq items nl, slots := oslots } := Heap.get?_push_of_some _ hol
        have hsls := F.sub_list_set
        have hslf := F.sub_list_frozenset
        have hne : (Value.type "list" == Value.type "dict") = false := by decide
        have hl1 : (s.heap.push (newSetO w)).IsList l items := ⟨_, hol', rfl, nl, rfl⟩
        unfold Builtin.«set.__init__» noKeywords Builtin.Frozenset.updateFrom
        generalize hPI : pyIter = PI
        wp_walk
        subst hPI

        refine wpAny_pyIter_list hl1 ?_
        refine wpAny_bind (wpAny_runValue ?_)
        have hlS : l < s.heap.objs.size := Heap.lt_size hol
        have hh3 : A.in1.in1.in1.handled = none := by simp [hh]
        have hneI : l ≠ (s.heap.push (newSetO w)).objs.size := by
          rw [Heap.size_push]; exact Nat.ne_of_lt (Nat.lt_succ_of_lt hlS)
        have hSf : s.heap.objs.size ∉ [(s.heap.push (newSetO w)).objs.size, l] := by
          rw [Heap.size_push]; simp only [List.mem_cons, List.mem_singleton, List.not_mem_nil, or_false, not_or]
          exact ⟨Nat.ne_of_lt (Nat.lt_succ_self _), Nat.ne_of_gt hlS⟩
        have hval : ∀ (i : Nat) (v : Value), items[i]? = some v → ∃ p, ks[i]? = some p ∧ v = p.2 := fun i v hv => by
          have q : items.toList[i]? = some v := by rw [Array.getElem?_toList]; exact hv
          rw [hit, List.getElem?_map] at q
          cases hq : ks[i]? with
          | none => rw [hq] at q; cases q
          | some p =>
            rw [hq] at q
            exact ⟨p, rfl, (Option.some.inj q).symm⟩
        have none_of : ∀ b, s.heap.objs.size ≤ b → s.heap.get? b = none := fun b hb => by
          cases q : s.heap.get? b with
          | none => rfl
          | some o => exact absurd (Nat.lt_of_lt_of_le (Heap.lt_size q) hb) (Nat.lt_irrefl _)
        refine up_loop e ((Walks.list hh3 _ l hneI items).toS) s.heap.objs.size
          hSf ks hisz few hval s.heap hk (none_of _ (Nat.le_refl _)) (fun b hb => none_of b (by
            rw [List.mem_singleton.mp hb, Heap.size_push]
            exact Nat.le_succ _)) hu (items.size - 0) 0 _ (by omega) (Nat.zero_le _)
          ⟨⟨_, Heap.get?_push_size _ rfl, rfl, rfl⟩, (hl1.push _)⟩ (fun b o z => Heap.get?_push_of_some _ (Heap.get?_push_of_some _ z)) ?hS0 ?hR
        case hS0 =>
          have hget : ((s.heap.push (newSetO w)).push { cls := .type "list_iterator", data := .fields #[.ref l, .int 0 0] }).get? s.heap.objs.size
              = some (newSetO w) := Heap.get?_push_of_some _ hS
          exact ⟨[], e.fresh hget, In1.zero ks⟩
        case hR =>
          intro s' L hm hS' g' hkp
          obtain ⟨h', g2, d', tk', os'⟩ := s'
          have eg : g2 = s.gens := hm.gens
          have ed : d' = s.drawn := hm.drawn
          have eo : os' = s.os := hm.os
          subst eg; subst ed; subst eo
          show wpAny _ _ _ _ _ _
          refine wpAny_pure ?_
          show wpAny _ _ (ret Value.none) _ _ _
          rw [hisz] at g'
          exact wpAny_pure ⟨rfl, h', tk', L, rfl, hS', g', hkp⟩

      · cases r₂ with
        | error e => exact hr₂
        | ok fl₂ =>
          cases fl₂ with
          | ret r =>
            obtain ⟨rfl, h', tk, L, rfl, hS', g', hk'⟩ := hr₂
            repeat (any_goals (first | assumption | wp_step))
            exact h _ _ _ hS' g' hk'
          | _ => exact hr₂.elim
    | _ => exact hr.elim

include e in
set_option maxRecDepth 100000 in
set_option maxHeartbeats 3200000 in
/-- set(xs), xs a tuple -/
theorem call_set_tuple {l : Addr} {items : Array Value} (ks : List (e.κ × Value)) {Q : Value → Shared → Prop} (hh : A.handled = none) (hl : s.heap.IsTuple l items) (hit : items.toList = ks.map (·.2))
    (hk : ∀ p ∈ ks, e.It s.heap p.1 p.2) (few : Few (ks.map (·.1))) (hu : A.units + 3 < cLine)
    (h : ∀ (h' : Heap) (tk : Nat) L, e.G h' s.heap.objs.size L → In1 ks ks.length L → (∀ b o, s.heap.get? b = some o → h'.get? b = some o) → Q (.ref s.heap.objs.size) { s with heap := h', toks := tk }) :
    wpAny (model P w) A (call (.type "set") [.ref l]) Q E s := by
  have hisz : items.size = ks.length := by
    have q := congrArg List.length hit
    rw [Array.length_toList, List.length_map] at q
    exact q
  obtain ⟨c, tl, hmro⟩ := F.called_set.mro
  have hmade := F.called_set.made
  have hsub := F.called_set.sub
  refine wpAny_call (codeAny_of_tree ?_)
  show wpAny _ _ (callAny (.type "set") _) _ _ _
  refine wpAny_pure ⟨Code.quiet_builtin _ (by decide +kernel), codeAny_builtin F.entry_type_call ?_⟩
  rw [Around.under_plain (weight_type_call_type "set" [.ref l] []) rfl]
  have h1 := F.called_set.notType
  have h2 := F.called_set.canCreate
  have hct := F.typeCall_set_1 (.ref l)
  repeat (any_goals (first | assumption | wp_step))

  refine codeAny_mono (code_set_led1 (.ref l) (E := E) (Q₁ := fun obj s₁ => obj = .ref s.heap.objs.size ∧ s₁ = { s with heap := s.heap.push (newSetO w) }) ⟨rfl, rfl⟩) fun r s₁ hr => ?_
  cases r with
  | error e => exact hr
  | ok fl =>
    cases fl with
    | ret obj =>
      obtain ⟨rfl, rfl⟩ := hr
      have hS : (s.heap.push (newSetO w)).get? s.heap.objs.size = some (newSetO w) := Heap.get?_push_size _ rfl
      have hT : Shared.TypeIs { s with heap := s.heap.push (newSetO w) } (.ref s.heap.objs.size) "set" := ⟨_, hS, rfl⟩
      have hli := F.called_set.init.lookup
      have hbi := F.called_set.init.bind (.ref s.heap.objs.size)
      repeat (any_goals (first | assumption | wp_step))

      refine codeAny_mono (codeAny_call_builtin (R := wants (fun r s₂ => r = .none ∧ ∃ h' tk L, s₂ = { s with heap := h', toks := tk } ∧ e.G h' s.heap.objs.size L ∧ In1 ks ks.length L ∧
          (∀ b o, s.heap.get? b = some o → h'.get? b = some o)) E) F.called_set.init.plain F.entry_set_init (check_set_init_1 hT ?_)) fun r₂ s₂ hr₂ => ?_
      · obtain ⟨ol, hol, hcl, nl, hdl⟩ := hl
        obtain ⟨ocls, odict, odata, oslots⟩ := ol
        simp only at hcl hdl
        subst hcl; subst hdl
        have hol' : (s.heap.push (newSetO w)).get? l = some { cls := .type "tuple", dict := odict, data := .seq items nl, slots := oslots } := Heap.get?_push_of_some _ hol
        have hsls := F.sub_tuple_set
        have hslf := F.sub_tuple_frozenset
        have hne : (Value.type "tuple" == Value.type "dict") = false := by decide
        have hl1 : (s.heap.push (newSetO w)).IsTuple l items := ⟨_, hol', rfl, nl, rfl⟩
        unfold Builtin.«set.__init__» noKeywords Builtin.Frozenset.updateFrom
        generalize hPI : pyIter = PI
        wp_walk
        subst hPI

        refine wpAny_pyIter_tuple hl1 ?_
        refine wpAny_bind (wpAny_runValue ?_)
        have hlS : l < s.heap.objs.size := Heap.lt_size hol
        have hh3 : A.in1.in1.in1.handled = none := by simp [hh]
        have hneI : l ≠ (s.heap.push (newSetO w)).objs.size := by
          rw [Heap.size_push]; exact Nat.ne_of_lt (Nat.lt_succ_of_lt hlS)
        have hSf : s.heap.objs.size ∉ [(s.heap.push (newSetO w)).objs.size, l] := by
          rw [Heap.size_push]; simp only [List.mem_cons, List.mem_singleton, List.not_mem_nil, or_false, not_or]
          exact ⟨Nat.ne_of_lt (Nat.lt_succ_self _), Nat.ne_of_gt hlS⟩
        have hval : ∀ (i : Nat) (v : Value), items[i]? = some v → ∃ p, ks[i]? = some p ∧ v = p.2 := fun i v hv => by
          have q : items.toList[i]? = some v := by rw [Array.getElem?_toList]; exact hv
          rw [hit, List.getElem?_map] at q
          cases hq : ks[i]? with
          | none => rw [hq] at q; cases q
          | some p =>
            rw [hq] at q
            exact ⟨p, rfl, (Option.some.inj q).symm⟩
        have none_of : ∀ b, s.heap.objs.size ≤ b → s.heap.get? b = none := fun b hb => by
          cases q : s.heap.get? b with
          | none => rfl
          | some o => exact absurd (Nat.lt_of_lt_of_le (Heap.lt_size q) hb) (Nat.lt_irrefl _)
        refine up_loop e ((Walks.tuple hh3 _ l hneI items).toS) s.heap.objs.size
          hSf ks hisz few hval s.heap hk (none_of _ (Nat.le_refl _)) (fun b hb => none_of b (by
            rw [List.mem_singleton.mp hb, Heap.size_push]
            exact Nat.le_succ _)) hu (items.size - 0) 0 _ (by omega) (Nat.zero_le _)
          ⟨⟨_, Heap.get?_push_size _ rfl, rfl, rfl⟩, (hl1.push _)⟩ (fun b o z => Heap.get?_push_of_some _ (Heap.get?_push_of_some _ z)) ?hS0 ?hR
        case hS0 =>
          have hget : ((s.heap.push (newSetO w)).push { cls := .type "tuple_iterator", data := .fields #[.ref l, .int 0 0] }).get? s.heap.objs.size
              = some (newSetO w) := Heap.get?_push_of_some _ hS
          exact ⟨[], e.fresh hget, In1.zero ks⟩
        case hR =>
          intro s' L hm hS' g' hkp
          obtain ⟨h', g2, d', tk', os'⟩ := s'
          have eg : g2 = s.gens := hm.gens
          have ed : d' = s.drawn := hm.drawn
          have eo : os' = s.os := hm.os
          subst eg; subst ed; subst eo
          show wpAny _ _ _ _ _ _
          refine wpAny_pure ?_
          show wpAny _ _ (ret Value.none) _ _ _
          rw [hisz] at g'
          exact wpAny_pure ⟨rfl, h', tk', L, rfl, hS', g', hkp⟩

      · cases r₂ with
        | error e => exact hr₂
        | ok fl₂ =>
          cases fl₂ with
          | ret r =>
            obtain ⟨rfl, h', tk, L, rfl, hS', g', hk'⟩ := hr₂
            repeat (any_goals (first | assumption | wp_step))
            exact h _ _ _ hS' g' hk'
          | _ => exact hr₂.elim
    | _ => exact hr.elim
end
end Vk

set_option Elab.async false
set_option linter.all false
set_option maxRecDepth 100000
set_option maxHeartbeats 4000000
/-! sorted(set(xs)) over data. -/
namespace Vk
open PySem PySem.W PySem.Calls PyProof.Rows L2 StX
/-- the rows of the set at a -/
def SetO (w : World) (a : Addr) {κ : Type} (L : List (κ × Value)) : HO := .ext fun h => ∃ (hs : κ → Int) (es : Array (Int × Value)) (ep : Nat) (t : SetTable), SR w hs h a L es ep t
theorem setO_ok {P : Program} {w : World} {H : Hp} {h : Heap} {a : Addr} {κ : Type} {L : List (κ × Value)} (R : ∃ (hs : κ → Int) (es : Array (Int × Value)) (ep : Nat) (t : SetTable), SR w hs h a L es ep t) : ObjOk P w H h a (SetO w a L) := by
  have ⟨hs, es, ep, t, r⟩ := R
  have ⟨o, ho, _⟩ := r.ob
  refine ⟨R, ⟨o, ho⟩, fun h1 h2 p k => ?_⟩
  have ⟨hs', es', ep', t', r'⟩ := p
  exact ⟨hs', es', ep', t', r'.at fun o' e' => k o' e'⟩
def ElOf {P : Program} {w : World} (e : El P w) (K : PySem.W.Frag) : Prop := ∀ {X : Cx} {pins : List (Addr × Obj)} {σ : L2.St} {H : Hp} {s : Shared} {u : Value} {k : e.κ}, X.K = K → Inv X pins σ H s → Kn K H u (e.enc k) → e.It s.heap k u
theorem elS_of {P : Program} {w : World} {K : PySem.W.Frag} : ElOf (elS P w) K := fun {X pins σ H s u k} hK I h => by
  obtain ⟨x, r, d⟩ := h
  have d' : Dp K H x (.str k) := d
  cases d'
  exact r
theorem strItems {P : Program} {w : World} : ∀ {k : Ks} {us : List Value}, Vals (k.map V.str) us → ItemsAre (PySem.strKind P w) k us
  | [], _, .nil => .nil
  | n :: k, _, .cons r t => by
    obtain ⟨tk, rfl⟩ := r
    exact .cons (strKind_is P w n tk) (strItems t)
theorem elT_of {P : Program} {w : World} {K : PySem.W.Frag} : ElOf (elT P w) K := fun {X pins σ H s u k} hK I h => by
  obtain ⟨x, r, d⟩ := h
  have d' : Dp K H x (.tuple (k.map .str)) := d
  subst hK
  cases d' with
  | @tup a xs _ hx t =>
    cases r
    obtain rfl := DpAll.strs k t
    obtain ⟨its, rv, ⟨o, ho, hc, n, hd⟩, _⟩ := I.tuple hx
    exact ⟨_, rfl, o, its.toArray, n, ho, hc, hd, by simpa using strItems rv⟩
/-- set(xs) -/
def rSetOf (K : PySem.W.Frag) (w : World) {κ : Type} (enc : κ → PyData) : List V → Hp → VK → Prop := fun vs H Q => ∃ (B : Hp) (v : V) (ks : List κ), Sub B H ∧ vs = [v] ∧ (Dp K B v (.list (ks.map enc)) ∨ Dp K B v (.tuple (ks.map enc))) ∧ Few ks ∧
  ∀ (a : Addr) (L : List (κ × Value)), H a = none → (L.map (·.1)).Nodup → (∀ p ∈ L, p.1 ∈ ks ∧ Kn K B p.2 (enc p.1)) → (∀ k ∈ ks, k ∈ L.map (·.1)) → Q (.ref a) (upd H a (SetO w a L))
theorem kn_zip {K : PySem.W.Frag} {B : Hp} {κ : Type} {enc : κ → PyData} : ∀ {ks : List κ} {us : List Value}, EachIs (Kn K B) us (ks.map enc) → (ks.zip us).map (·.2) = us ∧ (ks.zip us).map (·.1) = ks ∧ ∀ p ∈ ks.zip us, p.1 ∈ ks ∧ Kn K B p.2 (enc p.1)
  | [], _, h => by
    cases h
    exact ⟨rfl, rfl, fun p hp => by cases hp⟩
  | k :: ks, _, h => by
    cases h with
    | cons r t =>
      obtain ⟨h1, h2, h3⟩ := kn_zip t
      refine ⟨by simp [h1], by simp [h2], fun p hp => ?_⟩
      rw [List.zip_cons_cons] at hp
      rcases List.mem_cons.mp hp with e | hp
      · rw [e]; exact ⟨List.mem_cons_self, r⟩
      · exact ⟨List.mem_cons_of_mem _ (h3 p hp).1, (h3 p hp).2⟩
theorem cSetOf {X : Cx} {K : PySem.W.Frag} (hK : X.K = K) (hc : X.calm = true) (hu : X.A.units + 64 < cLine) (e : El X.prog X.w) (eo : ElOf e K) : CallR X (.type "set") (rSetOf K X.w e.enc) := by
  intro pins s σ H vs us Q I r h
  obtain ⟨B, v, ks, sb, rfl, hd, few, q⟩ := h
  have key : ∀ its : List Value, EachIs (Kn K B) its (ks.map e.enc) → ∀ (h' : Heap) (tk : Nat) (L : List (e.κ × Value)), e.G h' s.heap.objs.size L → In1 (ks.zip its) (ks.zip its).length L → (∀ b o, s.heap.get? b = some o → h'.get? b = some o) →
      ∃ v' H', Inv X pins σ H' { s with heap := h', toks := tk } ∧ RelV v' (Value.ref s.heap.objs.size) ∧ Q v' H' := by
    intro its ek h' tk L g i1 k1
    obtain ⟨z1, z2, z3⟩ := kn_zip ek
    have hs := e.ob g
    obtain ⟨hs0, es0, ep0, t0, r0⟩ := id hs
    refine ⟨.ref s.heap.objs.size, upd H s.heap.objs.size (SetO X.w s.heap.objs.size L), I.laid (t' := tk) k1 (Nat.le_refl _) (setO_ok hs), rfl, q _ L (I.hok.fresh (Nat.le_refl _)) r0.nd (fun p hp => z3 p (List.mem_of_mem_take (i1.sub p hp))) fun k hk => ?_⟩
    rw [← z2] at hk
    obtain ⟨p, hp, rfl⟩ := List.mem_map.mp hk
    exact i1.all p (by rw [List.take_length]; exact hp)
  have its_ok : ∀ its : List Value, EachIs (Kn K B) its (ks.map e.enc) → ∀ p ∈ ks.zip its, e.It s.heap p.1 p.2 := fun its ek p hp => by
    obtain ⟨_, _, z3⟩ := kn_zip ek
    exact eo hK I (Kn.sub sb (z3 p hp).2)
  have few' : ∀ its : List Value, EachIs (Kn K B) its (ks.map e.enc) → Few ((ks.zip its).map (·.1)) := fun its ek => by
    obtain ⟨_, z2, _⟩ := kn_zip ek
    rw [z2]; exact few
  have hu3 : X.A.units + 3 < cLine := by omega
  rcases hd with hd | hd
  · cases hd with
    | @lst a xs _ hx t =>
      obtain ⟨its, rv, pl, hz⟩ := I.list (by rw [hK]; exact sqL_sub sb hx)
      rw [Vals.ref1 r]
      have ek := kn_of rv t
      refine call_set_list e (ks.zip its) (I.ok.hd hc) pl.isList ((kn_zip ek).1.symm) (its_ok its ek) (few' its ek) hu3 fun h' tk L g i1 k1 => ?_
      exact key its ek h' tk L g i1 k1
  · cases hd with
    | @tup a xs _ hx t =>
      obtain ⟨its, rv, ⟨o, ho, hcl, n, hdt⟩, hz⟩ := I.tuple (by rw [hK]; exact sqT_sub sb hx)
      rw [Vals.ref1 r]
      have ek := kn_of rv t
      refine call_set_tuple e (ks.zip its) (I.ok.hd hc) ⟨o, ho, hcl, n, hdt⟩ ((kn_zip ek).1.symm) (its_ok its ek) (few' its ek) hu3 fun h' tk L g i1 k1 => ?_
      exact key its ek h' tk L g i1 k1
/-- sorted(set) -/
def rSortSet (K : PySem.W.Frag) (w : World) {κ : Type} (enc : κ → PyData) : List V → Hp → VK → Prop := fun vs H Q => ∃ (B : Hp) (a : Addr) (L : List (κ × Value)), Sub B H ∧ vs = [.ref a] ∧ H a = some (SetO w a L) ∧ (∀ p ∈ L, Kn K B p.2 (enc p.1)) ∧ Gd (L.map fun p => enc p.1) ∧
  ∀ p xs ds, H p = none → ds.Perm (L.map fun p => enc p.1) → DpAll K B xs (sortD ds) → Q (.ref p) (upd H p (.lst xs))
theorem each_of {K : PySem.W.Frag} {B : Hp} {κ : Type} {enc : κ → PyData} : ∀ {L : List (κ × Value)}, (∀ p ∈ L, Kn K B p.2 (enc p.1)) → EachIs (Kn K B) (L.map (·.2)) (L.map fun p => enc p.1)
  | [], _ => .nil
  | p :: L, h => .cons (h p List.mem_cons_self) (each_of fun q hq => h q (List.mem_cons_of_mem _ hq))
theorem cSortSet {X : Cx} {K : PySem.W.Frag} {κ : Type} {enc : κ → PyData} (hK : X.K = K) (hc : X.calm = true) (hu : X.A.units + 64 < cLine) : CallR X (.builtin "sorted") (rSortSet K X.w enc) := by
  subst hK
  intro pins s σ H vs us Q I r h
  obtain ⟨B, a, L, sb, rfl, ha, hkn, gd, q⟩ := h
  obtain ⟨hs, es, ep, t, R⟩ : ∃ (hs : κ → Int) (es : Array (Int × Value)) (ep : Nat) (t : SetTable), SR X.w hs s.heap a L es ep t := (I.hok a _ ha).1
  obtain ⟨o, ho, hex, hd⟩ := R.ob
  rw [Vals.ref1 r]
  have hsz := R.size
  have hfew := R.few
  refine Calls.call_function_entry kind_sorted plain_sorted entry_sorted (args_sorted1 _) ?_
  unfold Builtin.«sorted»
  refine wpAny_bind (m := checkCount "sorted" 1 1 _) (wpAny_pure ?_)
  refine wpAny_bind (collect_set (A := X.A.in1) (I.ok.hd hc) ⟨o, ho, hex.1, hd⟩ R.fits (by unfold scanBound; omega) R.ris R.led fun s1 vs k1 hz g1 o1 pm => ?_)
  have hes : es.toList.map (·.2) = L.map (·.2) := by rw [R.rows, List.map_map]; rfl
  rw [hes] at pm
  obtain ⟨L', pL, e'⟩ := perm_unmap pm L rfl
  have hvl : vs.length ≤ sizeLine := by rw [e', List.length_map, pL.length_eq, sizeLine_eq]; omega
  have ek : EachIs (Kn X.K B) vs (L'.map fun p => enc p.1) := by rw [e']; exact each_of fun p hp => hkn p (pL.mem_iff.mp hp)
  have gd' : Gd (L'.map fun p => enc p.1) := gd.sub fun d hd => ((pL.map _).mem_iff).mp hd
  refine wpAny_bind (wpAny_newList ?_ hvl)
  have hoL : (s1.heap.push (seqObj "list" vs.toArray 0)).get? s1.heap.objs.size = some (seqObj "list" vs.toArray 0) := Heap.get?_push_size _ rfl
  have er := kn_reads I (ek.mono fun _ _ z => Kn.sub sb z)
  have keep1 : ∀ b u, s.heap.get? b = some u → (sortingHeap (s1.heap.push (seqObj "list" vs.toArray 0)) s1.heap.objs.size vs).get? b = some u := fun b u z => by
    have z1 := k1 b u z
    exact sortingHeap_old (Nat.ne_of_lt (Heap.lt_size z1)) (Heap.get?_push_of_some _ z1)
  have er' : EachIs (fun v d => ∃ as, Reads (sortingHeap (s1.heap.push (seqObj "list" vs.toArray 0)) s1.heap.objs.size vs) v d as) vs (L'.map fun p => enc p.1) := er.mono fun _ _ ⟨as, r⟩ => ⟨as, PyProof.Rows.Reads.keeps keep1 r⟩
  have S := sortsAt_gd (prog := X.prog) (w := X.w) (A := X.A.in1.in1) (s := { s1 with heap := sortingHeap (s1.heap.push (seqObj "list" vs.toArray 0)) s1.heap.objs.size vs }) gd' er' (by show X.A.units + 2 + 1 < cLine; omega)
  have eo := sortVals_data (enc := id) false ek er' (by rw [List.map_id]; exact gd'.alike)
  rw [List.map_id] at eo
  obtain ⟨xs', rx, rd⟩ := of_kn eo
  refine wpAny_bind (wpAny_holding (wpAny_call_entry slot_list_sort ⟨_, hoL, rfl⟩ entry_list_sort (list_sort_vals (s := { s1 with heap := s1.heap.push (seqObj "list" vs.toArray 0) }) hoL S hvl ⟨_, rfl, ?_⟩) (args_list_sort _)))
  obtain ⟨c, hc2⟩ := sortedHeap_at (vs := vs) (out := (sortVals (dataKind (sortingHeap (s1.heap.push (seqObj "list" vs.toArray 0)) s1.heap.objs.size vs) (L'.map fun p => enc p.1)) false vs vs).toArray) hoL
  refine wpAny_pure ⟨_, rfl, ?_⟩
  have hlen : xs'.length ≤ sizeLine := by
    rw [rx.length, sortVals_length false rfl]; exact hvl
  have hn : H s1.heap.objs.size = none := I.hok.fresh hz
  have k : ∀ b u, s.heap.get? b = some u → (sortedHeap (s1.heap.push (seqObj "list" vs.toArray 0)) s1.heap.objs.size vs (sortVals (dataKind (sortingHeap (s1.heap.push (seqObj "list" vs.toArray 0)) s1.heap.objs.size vs) (L'.map fun p => enc p.1)) false vs vs).toArray).get? b = some u := fun b u z => by
    have z1 := k1 b u z
    have hlt := Heap.lt_size z1
    rw [sortedHeap_old (Nat.ne_of_lt hlt) (by rw [size_push']; exact Nat.lt_succ_of_lt hlt)]
    exact Heap.get?_push_of_some _ z1
  have J : Inv X pins σ (upd H s1.heap.objs.size (.lst xs')) { s with heap := sortedHeap (s1.heap.push (seqObj "list" vs.toArray 0)) s1.heap.objs.size vs (sortVals (dataKind (sortingHeap (s1.heap.push (seqObj "list" vs.toArray 0)) s1.heap.objs.size vs) (L'.map fun p => enc p.1)) false vs vs).toArray, gens := s1.gens, drawn := s1.drawn, toks := s1.toks } :=
    I.call (ch := []) (Un.laid k hz hn) (I.hok.laid k hz ⟨hlen, _, c, rx, hc2⟩) (by rw [g1]; exact I.bare) (fun _ z => nomatch z)
  have es1 : ({ s1 with heap := sortedHeap (s1.heap.push (seqObj "list" vs.toArray 0)) s1.heap.objs.size vs (sortVals (dataKind (sortingHeap (s1.heap.push (seqObj "list" vs.toArray 0)) s1.heap.objs.size vs) (L'.map fun p => enc p.1)) false vs vs).toArray } : Shared) = { s with heap := sortedHeap (s1.heap.push (seqObj "list" vs.toArray 0)) s1.heap.objs.size vs (sortVals (dataKind (sortingHeap (s1.heap.push (seqObj "list" vs.toArray 0)) s1.heap.objs.size vs) (L'.map fun p => enc p.1)) false vs vs).toArray, gens := s1.gens, drawn := s1.drawn, toks := s1.toks } := by
    cases s1
    cases s
    cases o1
    rfl
  rw [es1]
  exact ⟨.ref _, _, J, rfl, q _ xs' _ hn (pL.map _) rd⟩
end Vk

set_option Elab.async false
set_option linter.all false
set_option maxRecDepth 100000
set_option maxHeartbeats 4000000
/-! Orders, what sorting comes to. -/
namespace Vk
open PySem PySem.W PySem.SeqAt L2 StX
section
variable {α : Type}
structure TO (lt : α → α → Bool) : Prop where
  irr : ∀ a, lt a a = false
  tr : ∀ a b c, lt a b = true → lt b c = true → lt a c = true
  tri : ∀ a b, lt a b = false → lt b a = false → a = b
def lexB (lt : α → α → Bool) : List α → List α → Bool
  | _, [] => false
  | [], _ :: _ => true
  | x :: xs, y :: ys => lt x y || (!lt y x && lexB lt xs ys)
variable {lt : α → α → Bool}
theorem TO.asy (h : TO lt) {a b : α} (q : lt a b = true) : lt b a = false := by
  cases z : lt b a with
  | false => rfl
  | true => have := h.tr _ _ _ q z; rw [h.irr] at this; cases this
theorem TO.lex (h : TO lt) : TO (lexB lt) := by
  refine ⟨fun l => ?_, fun a => ?_, fun a => ?_⟩
  · induction l with
    | nil => rfl
    | cons x xs ih => rw [lexB, h.irr, ih]; rfl
  · induction a with
    | nil =>
      intro b c h1 h2
      cases c with
      | nil => cases b <;> simp [lexB] at h2
      | cons _ _ => rfl
    | cons x xs ih =>
      intro b c h1 h2
      cases b with
      | nil => simp [lexB] at h1
      | cons y ys =>
        cases c with
        | nil => simp [lexB] at h2
        | cons z zs =>
          simp only [lexB, Bool.or_eq_true, Bool.and_eq_true, Bool.not_eq_true'] at h1 h2 ⊢
          rcases h1 with h1 | ⟨h1, h1'⟩
          · rcases h2 with h2 | ⟨h2, h2'⟩
            · exact .inl (h.tr _ _ _ h1 h2)
            · left
              cases q : lt y z with
              | true => exact h.tr _ _ _ h1 q
              | false => rw [← h.tri _ _ q h2]; exact h1
          · rcases h2 with h2 | ⟨h2, h2'⟩
            · left
              cases q : lt x y with
              | true => exact h.tr _ _ _ q h2
              | false => rw [h.tri _ _ q h1]; exact h2
            · cases q : lt x z with
              | true => exact .inl rfl
              | false =>
                right
                refine ⟨?_, ih _ _ h1' h2'⟩
                cases z1 : lt z x with
                | false => rfl
                | true =>
                  cases q1 : lt x y with
                  | true =>
                    have := h.tr _ _ _ z1 q1
                    rw [h2] at this; cases this
                  | false =>
                    rw [h.tri _ _ q1 h1, h2] at z1; cases z1
  · induction a with
    | nil =>
      intro b h1 h2
      cases b with
      | nil => rfl
      | cons _ _ => simp [lexB] at h1
    | cons x xs ih =>
      intro b h1 h2
      cases b with
      | nil => simp [lexB] at h2
      | cons y ys =>
        simp only [lexB, Bool.or_eq_false_iff, Bool.and_eq_false_iff, Bool.not_eq_false'] at h1 h2
        have e := h.tri _ _ h1.1 h2.1
        subst e
        rw [h.irr] at h1 h2
        rcases h1.2 with z | z
        · cases z
        · rcases h2.2 with z2 | z2
          · cases z2
          · rw [ih _ z z2]
def leB (lt : α → α → Bool) (a b : α) : Bool := !lt b a
theorem TO.le_tr (h : TO lt) (a b c : α) (h1 : leB lt a b = true) (h2 : leB lt b c = true) : leB lt a c = true := by
  unfold leB at *
  rw [Bool.not_eq_true'] at *
  cases q : lt c a with
  | false => rfl
  | true =>
    cases q2 : lt a b with
    | true => have := h.tr _ _ _ q q2; rw [h2] at this; cases this
    | false => rw [h.tri _ _ q2 h1, h2] at q; cases q
theorem TO.le_tot (h : TO lt) (a b : α) : (leB lt a b || leB lt b a) = true := by
  unfold leB
  cases q : lt a b with
  | true => rw [h.asy q]; rfl
  | false => simp
theorem TO.le_asy (h : TO lt) {a b : α} (h1 : leB lt a b = true) (h2 : leB lt b a = true) : a = b := by
  unfold leB at *
  rw [Bool.not_eq_true'] at *
  exact h.tri _ _ h2 h1
def srt (lt : α → α → Bool) (l : List α) : List α := l.mergeSort (leB lt)
theorem srt_perm (l : List α) : (srt lt l).Perm l := List.mergeSort_perm l _
theorem srt_pw (h : TO lt) (l : List α) : (srt lt l).Pairwise fun a b => leB lt a b = true := List.pairwise_mergeSort (fun a b c => h.le_tr a b c) (fun a b => h.le_tot a b) l
theorem srt_uniq (h : TO lt) {l l' : List α} (p : l.Perm l') : srt lt l = srt lt l' := by
  refine List.Perm.eq_of_pairwise (le := fun a b => leB lt a b = true) ?_ (srt_pw h l) (srt_pw h l') (((srt_perm l).trans p).trans (srt_perm l').symm)
  intro a b _ _ h1 h2
  exact h.le_asy h1 h2
def Up (lt : α → α → Bool) (l : List α) : Prop := l.Pairwise fun a b => lt a b = true
theorem Up.nodup (h : TO lt) {l : List α} (u : Up lt l) : l.Nodup := List.Pairwise.imp (fun {a b} q e => by subst e; rw [h.irr] at q; cases q) u
theorem Up.srt (h : TO lt) {l : List α} (u : Up lt l) : srt lt l = l := List.mergeSort_of_pairwise (u.imp fun {a b} q => by unfold leB; rw [h.asy q]; rfl)
theorem srt_up (h : TO lt) {l : List α} (nd : l.Nodup) : Up lt (Vk.srt lt l) := by
  have nd' : (Vk.srt lt l).Nodup := (srt_perm l).nodup_iff.mpr nd
  refine ((srt_pw h l).and nd').imp fun {a b} q => ?_
  cases z : lt a b with
  | true => rfl
  | false =>
    have := q.1
    unfold leB at this
    rw [Bool.not_eq_true'] at this
    exact absurd (h.tri _ _ z this) q.2
variable [DecidableEq α]
def dd : List α → List α
  | [] => []
  | x :: l => if x ∈ dd l then dd l else x :: dd l
theorem mem_dd {x : α} : ∀ {l : List α}, x ∈ dd l ↔ x ∈ l
  | [] => Iff.rfl
  | y :: l => by
    unfold dd
    split
    · rename_i hy
      rw [mem_dd, List.mem_cons]
      constructor
      · exact .inr
      · rintro (rfl | q)
        · exact mem_dd.mp hy
        · exact q
    · rw [List.mem_cons, List.mem_cons, mem_dd]
theorem dd_nodup : ∀ l : List α, (dd l).Nodup
  | [] => List.nodup_nil
  | y :: l => by
    unfold dd
    split
    · exact dd_nodup l
    · exact List.nodup_cons.mpr ⟨by assumption, dd_nodup l⟩
/-- each once, in order -/
def us (lt : α → α → Bool) (l : List α) : List α := srt lt (dd l)
theorem mem_us {x : α} {l : List α} : x ∈ us lt l ↔ x ∈ l := (srt_perm _).mem_iff.trans mem_dd
theorem us_up (h : TO lt) (l : List α) : Up lt (us lt l) := srt_up h (dd_nodup l)
theorem us_nodup (h : TO lt) (l : List α) : (us lt l).Nodup := (us_up h l).nodup h
theorem us_of (h : TO lt) {l l' : List α} (nd : l.Nodup) (e : ∀ x, x ∈ l ↔ x ∈ l') : srt lt l = us lt l' :=
  srt_uniq h ((List.perm_ext_iff_of_nodup nd (dd_nodup l')).mpr fun x => (e x).trans mem_dd.symm)
theorem us_same (h : TO lt) {l l' : List α} (e : ∀ x, x ∈ l ↔ x ∈ l') : us lt l = us lt l' := us_of h (dd_nodup l) fun x => mem_dd.trans (e x)
theorem us_id (h : TO lt) {l : List α} (u : Up lt l) : us lt l = l := by
  rw [← us_of h (u.nodup h) fun _ => Iff.rfl, u.srt h]
end
/-! the orders -/
def nLt (a b : Nat) : Bool := decide (a < b)
theorem nLt_to : TO nLt := ⟨fun a => by simp [nLt], fun a b c h1 h2 => by simp [nLt] at *; omega, fun a b h1 h2 => by simp [nLt] at *; omega⟩
def sLt (x y : Str) : Bool := lexB nLt x.cps.toList y.cps.toList
theorem sLt_to : TO sLt := ⟨fun a => nLt_to.lex.irr _, fun a b c => nLt_to.lex.tr _ _ _, fun a b h1 h2 => Str.ext' (Array.toList_inj.mp (nLt_to.lex.tri _ _ h1 h2))⟩
def tLt : Ks → Ks → Bool := lexB sLt
theorem tLt_to : TO tLt := sLt_to.lex
theorem lexB_nat : ∀ l l' : List Nat, lexB nLt l l' = decide (l < l')
  | [], [] => by simp [lexB]
  | [], _ :: _ => by simp [lexB]
  | _ :: _, [] => by simp [lexB]
  | x :: xs, y :: ys => by
    rw [lexB, lexB_nat xs ys]
    simp only [nLt, List.cons_lt_cons_iff]
    by_cases h1 : x < y
    · simp [h1]
    · by_cases h2 : y < x
      · have : ¬ x = y := by omega
        simp [h1, h2, this]
      · have : x = y := by omega
        simp [this]
theorem lt_dS (x y : Str) : dataLt (dS x) (dS y) = sLt x y := by rw [dataLt_str, sLt, lexB_nat]
theorem eqv_str (x y : Str) : PyData.eqv (.str x) (.str y) = decide (x = y) := by
  simp [PyData.eqv, Bool.beq_eq_decide_eq]
theorem toks_strs : ∀ a b : Ks, PyProof.Rows.lexLt PyProof.Rows.itemOrd (keyToksAll (a.map .str)) (keyToksAll (b.map .str)) = tLt a b
  | [], [] => by
    exact PyProof.Rows.lex_irrefl _
  | [], x :: l => by
    have : keyToksAll ((x :: l).map PyData.str) = keyToksAll (.str x :: l.map .str) := rfl
    rw [this, toks_all_cons]
    rfl
  | x :: l, [] => by
    have : keyToksAll ((x :: l).map PyData.str) = keyToksAll (.str x :: l.map .str) := rfl
    rw [this, toks_all_cons]
    rfl
  | x :: xs, y :: ys => by
    rw [List.map_cons, List.map_cons, dataLt_cons (by simp [alike]), toks_strs xs ys, eqv_str]
    show _ = lexB sLt (x :: xs) (y :: ys)
    rw [lexB]
    by_cases e : x = y
    · subst e
      simp [sLt_to.irr, tLt]
    · simp only [e, decide_false, Bool.false_eq_true, if_false]
      rw [show dataLt (.str x) (.str y) = sLt x y from lt_dS x y]
      cases q : sLt x y with
      | true => rfl
      | false =>
        cases q2 : sLt y x with
        | true => rfl
        | false => exact absurd (sLt_to.tri _ _ q q2) e
theorem lt_dT (a b : Ks) : dataLt (dT a) (dT b) = tLt a b := by
  unfold dT
  rw [dataLt_tuple, toks_strs]
theorem sortD_S (ks : Ks) : sortD (ks.map dS) = (srt sLt ks).map dS := by
  unfold sortD srt
  rw [List.map_mergeSort]
  intro a _ b _
  rw [dataLe_eq]
  exact congrArg (!·) (lt_dS b a).symm
theorem sortD_T (L : Kss) : sortD (L.map dT) = (srt tLt L).map dT := by
  unfold sortD srt
  rw [List.map_mergeSort]
  intro a _ b _
  rw [dataLe_eq]
  exact congrArg (!·) (lt_dT b a).symm
/-- first by size -/
def zLt (a b : Ks) : Bool := decide (a.length < b.length) || (decide (a.length = b.length) && tLt a b)
theorem zLt_to : TO zLt := by
  refine ⟨fun a => by simp [zLt, tLt_to.irr], fun a b c h1 h2 => ?_, fun a b h1 h2 => ?_⟩
  · simp only [zLt, Bool.or_eq_true, Bool.and_eq_true, decide_eq_true_eq] at *
    rcases h1 with h1 | ⟨h1, h1'⟩ <;> rcases h2 with h2 | ⟨h2, h2'⟩
    · left; omega
    · left; omega
    · left; omega
    · right; exact ⟨by omega, tLt_to.tr _ _ _ h1' h2'⟩
  · simp only [zLt, Bool.or_eq_false_iff, Bool.and_eq_false_iff, decide_eq_false_iff_not] at *
    have e : a.length = b.length := by omega
    rcases h1.2 with z | z
    · exact absurd e z
    · rcases h2.2 with z2 | z2
      · exact absurd e.symm z2
      · exact tLt_to.tri _ _ z z2
def dZ (a : Ks) : PyData := .tuple [.int a.length, dT a]
theorem dT_eqv : ∀ a b : Ks, PyData.eqvAll (a.map .str) (b.map .str) = decide (a = b)
  | [], [] => by simp [PyData.eqvAll]
  | [], _ :: _ => by simp [PyData.eqvAll]
  | _ :: _, [] => by simp [PyData.eqvAll]
  | x :: xs, y :: ys => by
    show PyData.eqvAll (.str x :: xs.map .str) (.str y :: ys.map .str) = _
    rw [PyData.eqvAll, dT_eqv xs ys, eqv_str]
    by_cases h : x = y <;> simp [h]
theorem eqv_dT (a b : Ks) : PyData.eqv (dT a) (dT b) = decide (a = b) := by
  unfold dT
  rw [PyData.eqv, dT_eqv]
theorem lt_dZ (a b : Ks) : dataLt (dZ a) (dZ b) = zLt a b := by
  unfold dZ
  rw [dataLt_pair (by simp [alike]) (alike_dT a b), dataLt_int, eqv_dT, lt_dT]
  simp only [PyData.eqv, beq_iff_eq, zLt]
  by_cases e : a.length = b.length
  · have e' : (a.length : Int) = b.length := by omega
    have e2 : ¬ a.length < b.length := by omega
    rw [if_pos e', decide_eq_false e2, decide_eq_true e]
    by_cases q : a = b
    · subst q; simp [tLt_to.irr]
    · simp [q]
  · have e' : ¬ (a.length : Int) = b.length := by omega
    rw [if_neg e', decide_eq_false e]
    by_cases q : a.length < b.length
    · simp [q]
    · simp [q]
end Vk

set_option Elab.async false
set_option linter.all false
set_option maxRecDepth 100000
set_option maxHeartbeats 4000000
/-! sorted(t, key=lambda x: (len(x), x)), t a tuple of tuples of texts. -/
namespace Vk
open PySem PySem.W PySem.Calls PyProof.Rows L2 StX
section
variable {prog : Program} {w : World} {A : Around} {E : Value → Shared → Prop} {s : Shared}
theorem gather_tup {l : Addr} {vs : List Value} {Q : List Value → Shared → Prop} (hl : s.heap.IsTuple l vs.toArray) (hsz : vs.length ≤ sizeLine)
    (h : Q vs { s with heap := (s.heap.push (seqObj "list" #[] 0)).update s.heap.objs.size (Obj.mapSeq (· ++ vs.toArray)) }) :
    wpAny (model prog w) A (collect (.ref l)) Q E s := by
  obtain ⟨o, ho, hc, n, hd⟩ := id hl
  unfold collect
  refine wpAny_bind (wpAny_runValue (codeAny_builtin entry_proto_collect' ?_))
  show wpAny _ _ (do again (.builtin "list.__iadd__" ⟨[← newList [], .ref l], []⟩)) _ _ s
  refine wpAny_bind (wpAny_newList (wpAny_pure ⟨Code.quiet_builtin _ (by decide +kernel), codeAny_builtin entry_list_iadd' ?_⟩))
  show wpAny _ _ (Builtin.List.listExtendWith (.ref s.heap.objs.size) (.ref l) (.ref s.heap.objs.size)) _ _ { s with heap := s.heap.push (seqObj "list" #[] 0) }
  unfold Builtin.List.listExtendWith
  have ho' : (s.heap.push (seqObj "list" #[] 0)).get? l = some o := Heap.get?_push_of_some _ ho
  refine wpAny_bind (wpAny_typeOf (T := "tuple") ⟨o, ho', hc⟩ ?_)
  have ht : (Value.type "tuple" == Value.type "tuple") = true := by rfl
  rw [if_pos (by rw [ht]; simp)]
  refine wpAny_bind (listItems_at ho' hd ?_)
  refine wpAny_bind (listItems_at (xs := #[]) (n := 0) (Heap.get?_push_size _ rfl) rfl ?_)
  rw [if_neg (by simp)]
  refine wpAny_bind (listUpdate_at (xs := #[]) (n := 0) (Heap.get?_push_size _ rfl) rfl ?_ (Nat.zero_le _) (by show (#[] ++ vs.toArray).size ≤ sizeLine + 1; simp only [Array.size_append, List.size_toArray, List.length_nil]; omega))
  refine wpAny_pure ?_
  show wpAny (model prog w) A (do
      let o ← load s.heap.objs.size
      match o.data with
      | .seq xs _ => pure xs.toList
      | _ => unsupported "internal:collect") Q E { s with heap := (s.heap.push (seqObj "list" #[] 0)).update s.heap.objs.size (Obj.mapSeq (· ++ vs.toArray)) }
  refine wpAny_bind (wpAny_load (get?_update_seq (Heap.get?_push_size _ rfl) _) ?_)
  show wpAny _ _ (pure ((#[] : Array Value) ++ vs.toArray).toList) Q E _
  rw [show ((#[] : Array Value) ++ vs.toArray).toList = vs by simp]
  exact wpAny_pure h
variable {β : Type} {vs : List Value} {bs : List β} {R : Value → β → Prop}
theorem sorted_key_tup {l f : Addr} {Q : Value → Shared → Prop} (k : β → PyData) (hl : s.heap.IsTuple l vs.toArray) (e : EachIs R vs bs) (hal : AllAlike (bs.map k)) (hk : Sortable (bs.map k)) (hL : bs.length ≤ sizeLine)
    (hu : ∀ x, x ∈ bs → A.units + 2 + (k x).depth < cLine)
    (turn : ∀ (v : Value) (x : β), R v x → x ∈ bs → ∀ (h : Heap) (tk : Nat), (∀ b o, s.heap.get? b = some o → h.get? b = some o) →
      wpAny (model prog w) A.in1.in1 (call (.ref f) [v]) (KeyPure (k x) { s with heap := h, toks := tk }) (fun _ _ => False) { s with heap := h, toks := tk })
    (h : ∀ out c h' tk, (∀ b o, s.heap.get? b = some o → h'.get? b = some o) → h'.get? (s.heap.objs.size + 1) = some (seqObj "list" (List.toArray out) c) → out.length = bs.length → EachIs R out (bs.mergeSort (dataLe false k)) →
      Q (.ref (s.heap.objs.size + 1)) { s with heap := h', toks := tk }) :
    wpAny (model prog w) A (call (.builtin "sorted") [.ref l] [(Str.ofString "key", .ref f)]) Q E s := by
  have hLv : vs.length ≤ sizeLine := by rw [e.length]; exact hL
  have up : ∀ {g : Heap}, KeepsBut (s.heap.objs.size + 1) (copyHeap s.heap vs) g → ∀ b o, s.heap.get? b = some o → g.get? b = some o := fun {g} kp b o q =>
    kp b o (Nat.ne_of_lt (Nat.lt_succ_of_lt (Heap.lt_size q))) (copyHeap_old q)
  refine call_function_entry_kw kind_sorted plain_sorted entry_sorted (ksk_s1 _ _) ?_
  unfold Builtin.«sorted»
  refine wpAny_bind (m := checkCount "sorted" 1 1 _) (wpAny_pure ?_)
  refine wpAny_bind (gather_tup hl hLv ?_)
  refine wpAny_bind (wpAny_newList ?_ hLv)
  have hsz : ((s.heap.push (seqObj "list" #[] 0)).update s.heap.objs.size (Obj.mapSeq (· ++ vs.toArray))).objs.size = s.heap.objs.size + 1 := by
    rw [Heap.size_update, size_push']
  show wpAny _ _ _ _ _ { s with heap := copyHeap s.heap vs }
  rw [hsz]
  refine wpAny_bind (wpAny_holding (wpAny_call_entry_kw slot_list_sort ⟨_, copyHeap_at s.heap vs, rfl⟩ entry_list_sort ?body (ksk_l1 _ _)))
  case body =>
    show wpAny (model prog w) A.in1.in1 (Builtin.«list.sort» ⟨[.ref (s.heap.objs.size + 1)], [(Str.ofString "key", .ref f)]⟩) _ _ _
    rw [ksk_t1]
    refine keyH_tree (kz := bs.map k) (s := { s with heap := copyHeap s.heap vs }) (copyHeap_at s.heap vs) (by rw [List.length_map]; exact e.length.symm) hLv hal hk (bound_map (A := A.in1.in1) hu)
      (keyH_turns (s := { s with heap := copyHeap s.heap vs }) e fun v x hR hx h tk kp => turn v x hR hx h tk (up kp)) fun h' tk out c kp hD ko => ?_
    exact ⟨_, rfl, wpAny_pure ⟨_, rfl, h out c h' tk (up kp) hD ((ko.length (by rw [List.length_map]; exact e.length.symm)).trans e.length) (keyedOut_each k ko e)⟩⟩
/-! the key's call -/
structure KeyScope (scope : Scope) (x : Str) : Prop where
  kind : scope.kind = .function
  co : scope.isCoroutine = false
  gen : scope.isGenerator = false
  cells : ∀ y ∈ scope.names, y.2 ≠ .cell ∧ y.2 ≠ .free
  loc : scope.names.lookup x = some .local
  len : scope.names.lookup ("len" : Str) = some .globalImplicit
theorem key_call {K : PySem.W.Frag} {mg : Str → Option Value} {base : Heap} {f c' b : Addr} {qual x : Str} {params : Arguments} {scope : Scope} {pm ctv : Value} {k : Ks} {p1 p2 p3 p4 p5 : Pos} {j : Nat}
    (M : Mod K mg base) (hk : ∀ b o, base.get? b = some o → s.heap.get? b = some o) (hm : mg ("len" : Str) = none) (S : KeyScope scope x) (hdb : (x == ("__debug__" : Str)) = false) (hdp : A.depth < recursionLimit)
    (hf : s.heap.get? f = some (kla_obj "<lambda>" qual params (.Tuple [.Call (.Name "len" p1) [.Name x p2] [] p3, .Name x p4] j p5) scope [] pm c' ctv)) (hc : s.heap.CodeRec (.ref c') qual)
    (hbind : ∀ (cv : Value) (v : Value), bindArgs (kla_fn "<lambda>" qual params (.Tuple [.Call (.Name "len" p1) [.Name x p2] [] p3, .Name x p4] j p5) scope [] pm cv ctv) ⟨[v], []⟩ = pure [(x, v)])
    (hz : k.length ≤ sizeLine) (r : Reads s.heap (.ref b) (dT k) []) : wpAny (model prog w) A (call (.ref f) [.ref b]) (KeyPure (dZ k) s) (fun _ _ => False) s := by
  refine wpAny_call (kla_callFunE hdp hf rfl S.co S.gen rfl hc ?_)
  rw [hbind]
  refine wpAny_pure (wpAny_newFunctionEnv (fun y hy => (S.cells y hy).1) (fun y hy => by rw [List.mem_singleton.mp hy]; exact S.loc) (fun h₁ hns hsb => ⟨(M.nolimit.keeps hk).fresh _ hsb, ?_⟩) S.kind)
  have k1 : ∀ b o, s.heap.get? b = some o → h₁.get? b = some o := fun b o e => hsb.extBut b o (Nat.ne_of_lt (Heap.lt_size e)) (Heap.get?_push_of_some _ e)
  have kb : ∀ b o, base.get? b = some o → h₁.get? b = some o := fun b o e => k1 b o (hk b o e)
  show codeAny _ _ (.expr _ (envX qual scope s.heap.objs.size f (.ref c') [])) _ _
  have r1 : Reads h₁ (.ref b) (.tuple (k.map .str)) [] := PyProof.Rows.Reads.keeps k1 r
  obtain ⟨mb, b1, b2⟩ := M.blt
  have look : ∀ {A' : Around} {E' : Value → Shared → Prop} {Q' : Value → Shared → Prop} {s' : Shared} {p : Pos}, s'.heap = h₁ → Q' (.ref b) s' → wpAny (model prog w) A' (eval (.Name x p) (envX qual scope s.heap.objs.size f (.ref c') [])) Q' E' s' := fun {A' E' Q' s' p} e q =>
    wpAny_Name (wpAny_loadName_local (m := fun y => [(x, Value.ref b)].reverse.lookup y) S.kind S.loc (by rw [e]; exact hns) (by simp) q) hdb
  generalize hd : k.map PyData.str = ds at r1
  have hlen : ds.length = k.length := by rw [← hd, List.length_map]
  cases r1 with
  | @tuple _ o vs n _ _ h1 h2 h3 h4 =>
    have hv : vs.size = k.length := by have := SeqAt.ReadsAll.length _ _ _ h4; rw [hlen] at this; simpa using this
    have ht : IsTup h₁ b vs := ⟨o, h1, h2, n, h3⟩
    have hn := line63
    refine kla_codeExpr (wpAny_Tuple_spliced (Calls.spliced_cons (wpAny_Call_Name_kw (Calls.Name_function_global S.kind S.len (Calls.loadGlobal_builtin (v := .builtin "len") (M.glob.keeps kb) hm (b1.keeps kb) ((b2 ("len" : Str) (by decide)).trans (by decide +kernel)) ?_) (by decide)))))
    refine PyProof.Rows.callWith_builtin1 (e := .Name x p2) (rest := []) (Calls.spliced_cons (look rfl (Calls.spliced_nil ?_)))
    refine len_tuple ht (by rw [hv]; omega) ?_
    refine Calls.spliced_cons (look rfl (Calls.spliced_nil ⟨by show 2 ≤ sizeLine; rw [sizeLine_eq]; omega, ?_⟩))
    refine ⟨_, _, rfl, fun b o e => Heap.get?_push_of_some _ (k1 b o e), ?_⟩
    have k2 : ∀ c o, h₁.get? c = some o → (h₁.push { cls := .type "tuple", data := .seq [Value.int vs.size (s.toks + [(x, Value.ref b)].length + 1), Value.ref b].toArray }).get? c = some o := fun c o e => Heap.get?_push_of_some _ e
    have r2 : Reads (h₁.push { cls := .type "tuple", data := .seq [Value.int vs.size (s.toks + [(x, Value.ref b)].length + 1), Value.ref b].toArray }) (.ref b) (dT k) [] := PyProof.Rows.Reads.keeps (fun c o e => k2 c o (k1 c o e)) r
    unfold dZ
    refine Reads.tuple (Heap.get?_push_size _ rfl) rfl rfl ?_
    rw [← hv]
    exact .cons (.int _ _) (.cons r2 .nil)
end
end Vk

set_option Elab.async false
set_option linter.all false
set_option maxRecDepth 100000
set_option maxHeartbeats 4000000
/-! by_size. -/
namespace Vk
open PySem PySem.W PySem.Calls PyProof.Rows L2 StX
theorem clo_nil {cells : List (Str × Addr)} : ∀ {names : List (Str × NameKind)}, (∀ y ∈ names, y.2 ≠ .free) → cloFrom cells names [] = []
  | [], _ => rfl
  | (n, k) :: r, h => by
    have hk : (k == NameKind.free) = false := by
      have := h (n, k) List.mem_cons_self
      cases k <;> first | rfl | exact absurd rfl this
    unfold cloFrom
    rw [hk]
    exact clo_nil fun y hy => h y (List.mem_cons_of_mem _ hy)
theorem strs_as {h : Heap} : ∀ {k : Ks} {vs : List Value} {as : List Addr}, ReadsAll h vs (k.map .str) as → as = []
  | [], _, _, .nil => rfl
  | _ :: _, _, _, .cons (.str _ _) t => by rw [strs_as t]; rfl
theorem reads_dT {h : Heap} {u : Value} {k : Ks} {as : List Addr} (r : Reads h u (dT k) as) : ∃ b, u = .ref b ∧ Reads h (.ref b) (dT k) [] ∧ ∃ vs : Array Value, vs.size = k.length ∧ ∃ o n, h.get? b = some o ∧ o.data = .seq vs n := by
  have r' : Reads h u (.tuple (k.map .str)) as := r
  generalize hd : k.map PyData.str = ds at r'
  cases r' with
  | @tuple b o vs n _ _ h1 h2 h3 h4 =>
    have := SeqAt.ReadsAll.length _ _ _ h4
    refine ⟨b, rfl, ?_, vs, ?_, o, n, h1, h3⟩
    · subst hd
      have e := strs_as h4
      subst e
      exact .tuple h1 h2 h3 h4
    · rw [← hd, List.length_map] at this; simpa using this
def tBy (K : PySem.W.Frag) (T : Tb) (te : TE) : TE := fun σ H Q => te σ H fun v H1 => TOk T H1 ∧ ∃ (B : Hp) (L : Kss), Fz B H1 ∧ Dp K B v (dTT L) ∧ (∀ k ∈ L, k.length ≤ sizeLine) ∧
  ∀ (p : Addr) (xs : List V) (H2 : Hp), LamX.ExtN H1 H2 → TOk T H2 → H2 p = none → DpAll K B xs ((srt zLt L).map dT) → Q (.ref p) (upd H2 p (.lst xs))
theorem pe_by {X : Cx} {K : PySem.W.Frag} {T : Tb} {c : Addr} {x y : Str} {te : TE} {params : Arguments} {scope : Scope} {p p0 p1 p2 p3 p4 p5 lpos kp pos : Pos} {j : Nat} (hK : X.K = K) (he : PE X (.Name y p0) te) (hg : Gl X "sorted") (hm : X.mg "sorted" = none) (hml : X.mg "len" = none)
    (TB : LamX.TabB X.base X.mg c T.1) (hcode : X.env.code = .ref c) (hq : X.env.qual ++ "<lambda>" = T.2) (S : KeyScope scope x) (hdef : defaultsOf params X.env = ([], [])) (hr : Room 1 X.A)
    (hbind : ∀ (q : Str) (pm cv ctv v : Value), bindArgs (kla_fn "<lambda>" q params (.Tuple [.Call (.Name "len" p1) [.Name x p2] [] p3, .Name x p4] j p5) scope [] pm cv ctv) ⟨[v], []⟩ = pure [(x, v)]) (hdb : (x == ("__debug__" : Str)) = false) :
    PE X (.Call (.Name "sorted" p) [.Name y p0] [⟨some "key", .Lambda params (.Tuple [.Call (.Name "len" p1) [.Name x p2] [] p3, .Name x p4] j p5) scope lpos, kp⟩] pos) (tBy K T te) := by
  subst hK
  refine ⟨fun pins s σ H Q I h => ?_⟩
  refine wpAny_Call_Name_kw (ld_blt (u := .builtin "sorted") I hg hm (by decide +kernel) ?_ (by decide) (by decide))
  refine callWith_kw (Calls.spliced_cons (thn (he.run pins s σ H _ I h) fun u s1 ⟨v, H1, I1, r1, q1⟩ => Calls.spliced_nil ?_))
  obtain ⟨tk, B, L, sb, hd, hkz, q⟩ := q1
  refine kws_cons ?_
  have hT1 : LamX.Tabs [T] H1 := fun t ht => by rw [List.mem_singleton.mp ht]; exact tk
  refine LamX.lam_make2 (T := [T]) (c := c) (P := T.1) I1 TB hcode (by rw [hq]; exact List.mem_cons_self) (fun t ht _ => by rw [List.mem_singleton.mp ht, hq]) hT1 hdef (fun z hz e => absurd e (S.cells z hz).2) fun f c' pm ctv H2 s2 I2 eN T2 hf hfn hfr hco => kws_nil ?_
  show wpAny (model X.prog X.w) X.A (call (.builtin "sorted") [u] [(Str.ofString "key", .ref f)]) _ _ s2
  rw [clo_nil fun z hz => (S.cells z hz).2] at hf
  have tk2 : TOk T H2 := T2 T List.mem_cons_self
  have fz2 : Fz B H2 := fun a o e => ⟨eN a o (sb a o e).1 (sb a o e).2, (sb a o e).2⟩
  have hd' : Dp X.K B v (.tuple (L.map dT)) := hd
  obtain ⟨⟨oc, vs0, t0, hoc, hdc, hvc⟩, _, _⟩ := I2.hok c' _ hco
  cases hd' with
  | @tup a xs _ hx t =>
    cases r1
    obtain ⟨its, rv, ht, hz⟩ := I2.tuple (sqT_sub (fz_sub fz2) hx)
    have ek := kn_of rv t
    have e : EachIs (fun u k => Kn X.K B u (dT k)) its L := each_of_map dT ek
    have hun := hr.un
    refine sorted_key_tup (R := fun u k => Kn X.K B u (dT k)) dZ ht e (AllAlike.of fun b b' => ?_) (Sortable.tuples fun b => ⟨_, _, rfl⟩) ?_ (fun k _ => ?_) (fun u k hR hk h' tk' kp' => ?_) fun out c1 h' tk' kp' hD hlo eo => ?_
    · unfold dZ
      rw [PySem.W.alike, alikeAll, alikeAll, alikeAll, alike_dT]
      simp [PySem.W.alike]
    · rw [← e.length, ← rv.length]; exact hz
    · have hdp : (dZ k).depth ≤ 2 := by
        unfold dZ dT
        simp [PyData.depth, PyData.depthAll, depth_strs]
      omega
    · have I3 : Inv X pins σ H2 { s2 with heap := h', toks := tk' } := I2.kept kp'
      obtain ⟨as, rd⟩ := Dp.reads I3 _ _ _ (Dp.sub (fz_sub fz2) _ _ hR.choose_spec.2) hR.choose_spec.1
      obtain ⟨b, rfl, rb, _⟩ := reads_dT rd
      exact key_call (s := { s2 with heap := h', toks := tk' }) I3.mod I3.bk hml S hdb (by have := hr.dp; show X.A.depth < _; omega) (kp' _ _ hf) ⟨c', oc, vs0, t0, rfl, kp' _ _ hoc, hdc, hvc⟩ (fun cv v => hbind _ _ cv _ v) (hkz k hk) rb
    · have eo2 : EachIs (Kn X.K B) out ((L.mergeSort (dataLe false dZ)).map dT) := each_map (R := fun u d => Kn X.K B u d) dT eo
      obtain ⟨xs', rx, rd⟩ := of_kn eo2
      have es : L.mergeSort (dataLe false dZ) = srt zLt L := by
        unfold srt
        congr 1
        funext a b
        rw [dataLe_eq]
        exact congrArg (!·) (lt_dZ b a)
      rw [es] at rd
      have hlen : xs'.length ≤ sizeLine := by
        rw [rx.length, hlo, ← e.length, ← rv.length]; exact hz
      exact ⟨.ref _, upd H2 (s2.heap.objs.size + 1) (.lst xs'), I2.laid (t' := tk') kp' (Nat.le_succ _) ⟨hlen, _, c1, rx, hD⟩, rfl, q _ xs' H2 eN tk2 (I2.hok.fresh (Nat.le_succ _)) rd⟩
/-! the contract -/
def A_by_size (ds : List PyData) (d : PyData) : Prop := ∃ L : Kss, (∀ k ∈ L, k.length ≤ sizeLine) ∧ ds = [dTT L] ∧ d = dLT (srt zLt L)
theorem ed_by {K : PySem.W.Frag} {T : Tb} {σ : L2.St} {B : Hp} {te : TE} {L : Kss} (h : ED T K te σ B (dTT L)) (hz : ∀ k ∈ L, k.length ≤ sizeLine) : ED T K (tBy K T te) σ B (dLT (srt zLt L)) := fun H f tk Q q =>
  h H f tk _ fun v B1 H1 s1 r1 => ⟨s1.ok tk, B1, L, s1.fz, r1, hz, fun p xs H2 eN tk2 n r => by
    have s2 : St T B1 H1 B1 H2 := ⟨⟨eN, fun _ => tk2⟩, Sub.refl _, fun a o e => ⟨eN a o (s1.fz a o e).1 (s1.fz a o e).2, (s1.fz a o e).2⟩, fun _ _ h _ _ => h⟩
    exact q _ _ _ ((s1.trans s2).trans (St.laid s2.fz n noT_lst)) (Dp.newL (s2.fz.off n) r)⟩
def lamOf : Stmt → Scope
  | .Return (some (.Call _ _ [⟨_, .Lambda _ _ sc _, _⟩] _)) _ => sc
  | _ => default
def lamScope : Scope := lamOf ((defBody s_by_size).headD (.Pass ⟨0, 0, 0, 0⟩))
theorem lam_sc : KeyScope lamScope "lot" := ⟨rfl, rfl, rfl, by decide +kernel, rfl, rfl⟩
section
variable {P : Program} {w : World} {K : PySem.W.Frag} {mg : Str → Option Value} {base : Heap} {T : Tb}
theorem ok_by_size (c : Code K mg) {bc : Addr} (hbc : c.by_size.fd.code = .ref bc) (TB : LamX.TabB base mg bc T.1) (hT : T.2 = "by_size.<locals>.<lambda>") : FnOk P w K mg base CX0 2 c.by_size.f c.by_size.fd ["sets"] (spD T K A_by_size) := by
  obtain ⟨oc, od, dV, kV, doc, pm, an, cdv, ct, osl, efd, lk, hcd, _, _⟩ := c.by_size.F.ex
  rw [efd] at hbc lk ⊢
  have hbc : cdv = .ref bc := hbc
  subst hbc
  refine fn_of lk hcd sc_by_size (fun vs H Q E h => ?_) fun A outer s H vs Q E hr h => ?_
  · obtain ⟨B, ds, d, _, _, r, ⟨L, _, rfl, _⟩, _⟩ := h
    rw [r.length]; rfl
  · obtain ⟨B, ds, d, f1, tk, r, ⟨L, hz, rfl, rfl⟩, q⟩ := h
    obtain ⟨v, rfl, rv⟩ := dpAll1 r
    refine ⟨_, pss_one (ps_ret (pe_by (K := K) (T := T) (c := bc) (x := "lot") (scope := lamScope) rfl (pv 0) (by rfl) c.m_sorted c.m_len TB rfl (by rw [hT]; rfl) lam_sc (by rfl) hr (fun _ _ _ _ _ => by rfl) (by decide))), ?_⟩
    exact sd_ret f1 tk (ed_by (ed_var rfl rv) hz) q
end
end Vk

set_option Elab.async false
set_option linter.all false
set_option maxRecDepth 100000
set_option maxHeartbeats 4000000
/-! isinstance; comprehensions without a test; loops. -/
namespace Vk
open PySem L2 StX
/-! ### isinstance -/
def tyn : PyData → String
  | .none => "NoneType"
  | .bool _ => "bool"
  | .int _ => "int"
  | .str _ => "str"
  | .list _ => "list"
  | .tuple _ => "tuple"
  | .dict _ => "dict"
def isA (d : PyData) (c : String) : Bool := decide (tyn d = c) || (decide (tyn d = "bool") && decide (c = "int"))
theorem kit_d (K : PySem.W.Frag) (d : PyData) {c : String} (hc : c = "list" ∨ c = "tuple" ∨ c = "bool" ∨ c = "str" ∨ c = "int") : PySem.W.kitOne K (.type (tyn d)) (.type c) = some (isA d c) := by
  refine kit_ty ?_
  rcases hc with rfl | rfl | rfl | rfl | rfl <;> cases d <;> (first | decide +kernel | rfl)
theorem tyx_of {K : PySem.W.Frag} {H : Hp} {v : V} {d : PyData} (h : Dp K H v d) : TyX K H v (.type (tyn d)) := by
  cases h with
  | non => exact .base .non
  | bl b => exact .base (.bl b)
  | int i => exact .base (.int i)
  | str x => exact .base (.str x)
  | lst h t =>
    rcases h with (h | ⟨o, h⟩) | h
    · exact .base (.lst h)
    · exact .base (.frz h)
    · obtain ⟨o, vs, n, h1, h2, _⟩ := h
      exact .kList h1 h2
  | tup h t =>
    rcases h with (h | ⟨o, h⟩) | h
    · exact .base (.tup h)
    · exact .fTuple h
    · obtain ⟨o, vs, n, h1, h2, _⟩ := h
      exact .kTuple h1 h2
section
variable {X : Cx} {K : PySem.W.Frag} (hK : X.K = K)
include hK
theorem kIsi : CallR X (.builtin "isinstance") (rIsi K) := hK ▸ call_isi
theorem kIsiT : CallR X (.builtin "isinstance") (rIsiT K) := hK ▸ call_isiT
omit hK
theorem pe_tyn {x : Str} {c : String} {p : Pos} (hg : Gl X x) (hm : X.mg x = none) (hv : bootBuiltins x = some (.type c)) (hn : x ≠ "__name__" := by decide) (hd : (x == ("__debug__" : Str)) = false := by decide) : PE X (.Name x p) (tC (.ty c)) :=
  ⟨fun pins s σ H Q I h => ld_blt I hg hm hv ⟨.ty c, H, I, rfl, h⟩ hn hd⟩
end
section
variable {T : Tb} {K : PySem.W.Frag} {σ : L2.St} {B : Hp} {te tl : TE} {d : PyData}
theorem ed_isi {c : String} (h : ED T K te σ B d) (hc : c = "list" ∨ c = "tuple" ∨ c = "bool" ∨ c = "str" ∨ c = "int") : ED T K (tCB (rIsi K) (tCons te (tCons (tC (.ty c)) tNil))) σ B (.bool (isA d c)) := fun H f tk Q q =>
  h H f tk _ fun v B1 H1 s1 r1 => ⟨v, .ty c, _, _, _, rfl, .ty c, tyx_of (Dp.sub (fz_sub s1.fz) _ _ r1), kit_d K d hc, q _ B1 H1 s1 (.bl _)⟩
theorem ed_isiT {c e : String} (h : ED T K te σ B d) (hc : c = "list" ∨ c = "tuple" ∨ c = "bool" ∨ c = "str" ∨ c = "int") (he : e = "list" ∨ e = "tuple" ∨ e = "bool" ∨ e = "str" ∨ e = "int") :
    ED T K (tCB (rIsiT K) (tCons te (tCons (tTup (tCons (tC (.ty c)) (tCons (tC (.ty e)) tNil))) tNil))) σ B (.bool (isA d c || isA d e)) := fun H f tk Q q =>
  h H f tk _ fun v B1 H1 s1 r1 => ⟨by show 2 ≤ sizeLine; rw [sizeLine_eq]; omega, fun p n => by
    have s2 := s1.trans (St.work (T := T) (o := .tup [.ty c, .ty e]) s1.fz n)
    refine ⟨v, p, [.ty c, .ty e], _, [.type c, .type e], isA d c || isA d e, rfl, upd_same, .cons (.ty c) (.cons (.ty e) .nil), tyx_of (Dp.sub (fz_sub s2.fz) _ _ r1), ?_, q _ B1 _ s2 (.bl _)⟩
    cases z : isA d c with
    | true => exact kitAny_cons ((kit_d K d hc).trans (congrArg some z)) (fun z => by cases z) fun _ => rfl
    | false => exact kitAny_cons ((kit_d K d hc).trans (congrArg some z)) (fun _ => kitAny_cons (kit_d K d he) (fun z2 => by rw [z2]; exact kitAny_nil) fun z2 => by rw [z2]; rfl) fun z2 => by cases z2⟩
/-! ### comprehensions without a test -/
variable {α : Type} {j : Nat} {vs : List Nat} {xs : List α} {enc : α → PyData}
theorem ft_true (l : List α) : l.filter (fun _ => true) = l := List.filter_eq_self.mpr fun _ _ => rfl
theorem ed_mapL (g : α → PyData) (h : ED T K tl σ B (.list (xs.map enc))) (hw : ∀ x, wipe ((wipe σ vs).set j (some x)) vs = wipe σ vs)
    (he : ∀ x ∈ xs, ∀ v B1, Sub B B1 → Dp K B1 v (enc x) → ED T K te ((wipe σ vs).set j (some v)) B1 (g x)) :
    ED T K (tLc (iList K (tSz K tl)) (gName j) tYes te vs) σ B (.list (xs.map g)) :=
  (ed_lcL (fun _ => true) g h hw (fun _ _ _ _ _ _ => et_yes) fun x hx v B1 s r _ => he x hx v B1 s r).is (by rw [ft_true])
theorem ed_mapT (g : α → PyData) (h : ED T K tl σ B (.tuple (xs.map enc))) (hw : ∀ x, wipe ((wipe σ vs).set j (some x)) vs = wipe σ vs)
    (he : ∀ x ∈ xs, ∀ v B1, Sub B B1 → Dp K B1 v (enc x) → ED T K te ((wipe σ vs).set j (some v)) B1 (g x)) :
    ED T K (tLc (iTup K (tSz K tl)) (gName j) tYes te vs) σ B (.list (xs.map g)) :=
  (ed_lcT (fun _ => true) g h hw (fun _ _ _ _ _ _ => et_yes) fun x hx v B1 s r _ => he x hx v B1 s r).is (by rw [ft_true])
theorem ed_filL (p : α → Bool) {tt : TT} (h : ED T K tl σ B (.list (xs.map enc))) (hw : ∀ x, wipe ((wipe σ vs).set j (some x)) vs = wipe σ vs)
    (ht : ∀ x ∈ xs, ∀ v B1, Sub B B1 → Dp K B1 v (enc x) → ETT T tt ((wipe σ vs).set j (some v)) B1 (p x))
    (he : ∀ x ∈ xs, ∀ v B1, Sub B B1 → Dp K B1 v (enc x) → p x = true → ED T K te ((wipe σ vs).set j (some v)) B1 (enc x)) :
    ED T K (tLc (iList K (tSz K tl)) (gName j) tt te vs) σ B (.list ((xs.filter p).map enc)) := ed_lcL p enc h hw ht he
theorem ed_filT (p : α → Bool) {tt : TT} (h : ED T K tl σ B (.tuple (xs.map enc))) (hw : ∀ x, wipe ((wipe σ vs).set j (some x)) vs = wipe σ vs)
    (ht : ∀ x ∈ xs, ∀ v B1, Sub B B1 → Dp K B1 v (enc x) → ETT T tt ((wipe σ vs).set j (some v)) B1 (p x))
    (he : ∀ x ∈ xs, ∀ v B1, Sub B B1 → Dp K B1 v (enc x) → p x = true → ED T K te ((wipe σ vs).set j (some v)) B1 (enc x)) :
    ED T K (tLc (iTup K (tSz K tl)) (gName j) tt te vs) σ B (.list ((xs.filter p).map enc)) := ed_lcT p enc h hw ht he
/-! ### loops over a list, a tuple that stands -/
variable {D : Ends} {H : Hp} {tb : TS}
theorem sd_forL (f : Fz B H) (tk : TOk T H) (h : ED T K tl σ B (.list (xs.map enc)))
    (k : ∀ B1 H1, St T B H B1 H1 → ∃ Pv : Nat → L2.St → Hp → Prop, Pv 0 σ H1 ∧ (∀ i σ' H', Pv i σ' H' → Fz B1 H') ∧
      (∀ i x v σ' H', xs[i]? = some x → Dp K B1 v (enc x) → Pv i σ' H' → tb { D with nx := Pv (i + 1), ct := Pv (i + 1), bk := D.nx } (σ'.set j (some v)) H') ∧ ∀ σ' H', Pv xs.length σ' H' → D.nx σ' H') :
    tFor (iList K (tSz K tl)) (gName j) tb D σ H :=
  h H f tk _ fun v B1 H1 s1 r1 _ => by
    cases r1 with
    | @lst a zs _ hx t =>
      obtain ⟨Pv, p0, pf, ps, pd⟩ := k B1 H1 s1
      have el : zs.length = xs.length := by rw [t.length, List.length_map]
      refine ⟨a, rfl, ⟨_, sqL_sub (fz_sub s1.fz) hx⟩, ?_⟩
      refine for_it (walk_list (K := K) (a := a) (xs := zs)) Pv p0 (fun i σ' H' _ p => sqL_sub (fz_sub (pf i σ' H' p)) hx) (fun i x σ' H' H'' hi p y => ?_) (fun σ' H' p => pd σ' H' (by rw [← el]; exact p))
      obtain ⟨rfl, hxi⟩ := y
      obtain ⟨x0, e1, _, e3⟩ := enc_at t hxi
      exact ps i x0 x σ' _ e1 e3 p
theorem sd_forT (f : Fz B H) (tk : TOk T H) (h : ED T K tl σ B (.tuple (xs.map enc)))
    (k : ∀ B1 H1, St T B H B1 H1 → ∃ Pv : Nat → L2.St → Hp → Prop, Pv 0 σ H1 ∧ (∀ i σ' H', Pv i σ' H' → Fz B1 H') ∧
      (∀ i x v σ' H', xs[i]? = some x → Dp K B1 v (enc x) → Pv i σ' H' → tb { D with nx := Pv (i + 1), ct := Pv (i + 1), bk := D.nx } (σ'.set j (some v)) H') ∧ ∀ σ' H', Pv xs.length σ' H' → D.nx σ' H') :
    tFor (iTup K (tSz K tl)) (gName j) tb D σ H :=
  h H f tk _ fun v B1 H1 s1 r1 _ => by
    cases r1 with
    | @tup a zs _ hx t =>
      obtain ⟨Pv, p0, pf, ps, pd⟩ := k B1 H1 s1
      have el : zs.length = xs.length := by rw [t.length, List.length_map]
      refine ⟨a, rfl, ⟨_, sqT_sub (fz_sub s1.fz) hx⟩, ?_⟩
      refine for_it (walk_tup (K := K) (a := a) (xs := zs)) Pv p0 (fun i σ' H' _ p => sqT_sub (fz_sub (pf i σ' H' p)) hx) (fun i x σ' H' H'' hi p y => ?_) (fun σ' H' p => pd σ' H' (by rw [← el]; exact p))
      obtain ⟨rfl, hxi⟩ := y
      obtain ⟨x0, e1, _, e3⟩ := enc_at t hxi
      exact ps i x0 x σ' _ e1 e3 p
end
end Vk

set_option Elab.async false
set_option linter.all false
set_option maxRecDepth 100000
set_option maxHeartbeats 4000000
/-! What the program computes, in plain Lean; more rules over data. -/
namespace Vk
open PySem L2 StX
/-! ### sets of keys -/
def subsU (l : Ks) : Kss := l.foldl (fun F o => F ++ F.map fun a => a ++ [o]) [[]]
def subs (l : Ks) : Kss := srt tLt (subsU l)
def leastF (L : Kss) : Kss := L.foldl (fun F lot => if F.any (fun o => wi o lot) then F else F ++ [lot]) []
def least (L : Kss) : Kss := srt tLt (leastF (srt zLt (us tLt L)))
def leastV (ks : Ks) (L : Kss) : Vt := (ks, least (L.map (us sLt)))
def eithr (v o : Vt) : Vt := leastV v.1 (v.2 ++ o.2)
def bth (v o : Vt) : Vt := leastV v.1 (v.2.flatMap fun a => o.2.map fun b => a ++ b)
mutual
def tup : PyData → PyData
  | .list ds => .tuple (tups ds)
  | .tuple ds => .tuple (tups ds)
  | .none => .none
  | .bool b => .bool b
  | .int i => .int i
  | .str s => .str s
  | .dict k => .dict k
def tups : List PyData → List PyData
  | [] => []
  | d :: ds => tup d :: tups ds
end
theorem tups_map : ∀ ds : List PyData, tups ds = ds.map tup
  | [] => rfl
  | d :: ds => by rw [tups, tups_map ds]; rfl
theorem tup_list (ds : List PyData) : tup (.list ds) = .tuple (ds.map tup) := by rw [tup, tups_map]
theorem tup_tuple (ds : List PyData) : tup (.tuple ds) = .tuple (ds.map tup) := by rw [tup, tups_map]
theorem tup_dS (x : Str) : tup (.str x) = .str x := by rw [tup]
theorem map_tup_str (l : Ks) : (l.map PyData.str).map tup = l.map .str := by
  rw [List.map_map]
  exact List.map_congr_left fun x _ => tup_dS x
theorem tup_dT (l : Ks) : tup (dT l) = dT l := by unfold dT; rw [tup_tuple, map_tup_str]
theorem tup_dL (l : Ks) : tup (dL l) = dT l := by unfold dL dT; rw [tup_list, map_tup_str]
theorem map_tup_dT (L : Kss) : (L.map dT).map tup = L.map dT := by
  rw [List.map_map]
  exact List.map_congr_left fun x _ => tup_dT x
theorem tup_dTT (L : Kss) : tup (dTT L) = dTT L := by unfold dTT; rw [tup_tuple, map_tup_dT]
theorem tup_dLT (L : Kss) : tup (dLT L) = dTT L := by unfold dLT dTT; rw [tup_list, map_tup_dT]
theorem tup_dLL (L : Kss) : tup (.list (L.map dL)) = dTT L := by
  unfold dTT
  rw [tup_list, List.map_map]
  congr 1
  exact List.map_congr_left fun x _ => tup_dL x
theorem tup_dV (v : Vt) : tup (dV v) = dV v := by
  unfold dV
  rw [tup_tuple, List.map_cons, List.map_cons, List.map_nil, tup_dT, tup_dTT]
/-! depth -/
theorem dep_dT (l : Ks) : (dT l).depth = 1 := by unfold dT; simp [PyData.depth, depth_strs]
theorem dep_dL (l : Ks) : (dL l).depth = 1 := by unfold dL; simp [PyData.depth, depth_strs]
theorem depAll_le {n : Nat} : ∀ {ds : List PyData}, (∀ d ∈ ds, d.depth ≤ n) → PyData.depthAll ds ≤ n
  | [], _ => by simp [PyData.depthAll]
  | d :: ds, h => by
    rw [PyData.depthAll]
    exact Nat.max_le.mpr ⟨h d List.mem_cons_self, depAll_le fun e he => h e (List.mem_cons_of_mem _ he)⟩
theorem dep_le {n : Nat} : ∀ {ds : List PyData}, PyData.depthAll ds ≤ n → ∀ d ∈ ds, d.depth ≤ n
  | [], _, _, h => by cases h
  | d :: ds, hd, e, he => by
    rw [PyData.depthAll] at hd
    have := Nat.max_le.mp hd
    rcases List.mem_cons.mp he with rfl | he
    · exact this.1
    · exact dep_le this.2 e he
theorem dep_tuple (ds : List PyData) : (PyData.tuple ds).depth = PyData.depthAll ds + 1 := by rw [PyData.depth]
theorem dep_list (ds : List PyData) : (PyData.list ds).depth = PyData.depthAll ds + 1 := by rw [PyData.depth]
theorem dep_mapS (L : Kss) (f : Ks → PyData) (h : ∀ k, (f k).depth ≤ 1) : PyData.depthAll (L.map f) ≤ 1 := depAll_le fun d hd => by
  obtain ⟨k, _, rfl⟩ := List.mem_map.mp hd
  exact h k
theorem dep_dTT (L : Kss) : (dTT L).depth ≤ 2 := by unfold dTT; rw [dep_tuple]; exact Nat.succ_le_succ (dep_mapS L _ fun k => Nat.le_of_eq (dep_dT k))
theorem dep_dLT (L : Kss) : (dLT L).depth ≤ 2 := by unfold dLT; rw [dep_list]; exact Nat.succ_le_succ (dep_mapS L _ fun k => Nat.le_of_eq (dep_dT k))
theorem dep_dLL (L : Kss) : (PyData.list (L.map dL)).depth ≤ 2 := by rw [dep_list]; exact Nat.succ_le_succ (dep_mapS L _ fun k => Nat.le_of_eq (dep_dL k))
theorem dep_dV (v : Vt) : (dV v).depth ≤ 3 := by
  unfold dV
  rw [dep_tuple]
  refine Nat.succ_le_succ (depAll_le fun d hd => ?_)
  rcases List.mem_cons.mp hd with rfl | hd
  · rw [dep_dT]; decide
  · rw [List.mem_singleton.mp hd]; exact dep_dTT _
/-! shaped -/
/-- texts that can be laid -/
abbrev Nm (x : Str) : Prop := PyData.strOk x = true
abbrev Nms (l : Ks) : Prop := ∀ x ∈ l, Nm x
abbrev Nmss (L : Kss) : Prop := ∀ l ∈ L, Nms l
theorem lay_all : ∀ {ds : List PyData}, (∀ d ∈ ds, d.canLay0 = true) → PyData.canLayAll0 ds = true
  | [], _ => by simp [PyData.canLayAll0]
  | d :: ds, h => by
    rw [PyData.canLayAll0, h d List.mem_cons_self, lay_all fun e he => h e (List.mem_cons_of_mem _ he)]; rfl
theorem lay_strs {l : Ks} (h : Nms l) : PyData.canLayAll0 (l.map .str) = true := lay_all fun d hd => by
  obtain ⟨x, hx, rfl⟩ := List.mem_map.mp hd
  simpa [PyData.canLay0] using h x hx
theorem lay_dT {l : Ks} (h : Nms l) : (dT l).canLay0 = true := by unfold dT; rw [PyData.canLay0, lay_strs h]
theorem lay_dTs {L : Kss} (h : Nmss L) : PyData.canLayAll0 (L.map dT) = true := lay_all fun d hd => by
  obtain ⟨x, hx, rfl⟩ := List.mem_map.mp hd
  exact lay_dT (h x hx)
theorem lay_dTT {L : Kss} (h : Nmss L) : (dTT L).canLay0 = true := by unfold dTT; rw [PyData.canLay0, lay_dTs h]
theorem lay_dLT {L : Kss} (h : Nmss L) : (dLT L).canLay0 = true := by unfold dLT; rw [PyData.canLay0, lay_dTs h]
theorem shape_of {d : PyData} {n : Nat} (h : d.canLay0 = true) (hd : d.depth ≤ n) (hn : n ≤ 64 := by decide) : SeqAt.shaped d = true := by
  unfold SeqAt.shaped
  rw [h, Bool.true_and]
  exact decide_eq_true (Nat.le_trans hd hn)
theorem shaped_dT {l : Ks} (h : Nms l) : SeqAt.shaped (dT l) = true := shape_of (n := 1) (lay_dT h) (Nat.le_of_eq (dep_dT l))
theorem shaped_dTT {L : Kss} (h : Nmss L) : SeqAt.shaped (dTT L) = true := shape_of (lay_dTT h) (dep_dTT L)
theorem shaped_dLT {L : Kss} (h : Nmss L) : SeqAt.shaped (dLT L) = true := shape_of (lay_dLT h) (dep_dLT L)
theorem eqvAll_dT : ∀ a b : Kss, PyData.eqvAll (a.map dT) (b.map dT) = decide (a = b)
  | [], [] => by simp [PyData.eqvAll]
  | [], _ :: _ => by simp [PyData.eqvAll]
  | _ :: _, [] => by simp [PyData.eqvAll]
  | x :: xs, y :: ys => by
    rw [List.map_cons, List.map_cons, PyData.eqvAll, eqvAll_dT xs ys, eqv_dT]
    by_cases h : x = y <;> simp [h]
theorem eqv_dTT (a b : Kss) : PyData.eqv (dTT a) (dTT b) = decide (a = b) := by
  unfold dTT
  rw [PyData.eqv, eqvAll_dT]
/-! room -/
theorem _root_.L2.Room.u64 {k : Nat} {A : Around} (r : Room k A) : A.units + 64 < cLine := by have := r.un; omega
theorem _root_.L2.Room.u65 {k : Nat} {A : Around} (r : Room k A) : A.units + 65 < cLine := by have := r.un; omega
/-! ### rules -/
section
variable {T : Tb} {K : PySem.W.Frag} {σ : L2.St} {B : Hp} {te ta tb : TE} {d : PyData}
/-- sorted(set(x)) -/
theorem ed_srtSet {w : World} {κ : Type} [DecidableEq κ] {enc : κ → PyData} {lt : κ → κ → Bool} (hlt : TO lt) (hs : ∀ l : List κ, sortD (l.map enc) = (srt lt l).map enc) (hg : ∀ l : List κ, Gd (l.map enc)) {ks : List κ} (few : Few ks)
    (h : ED T K te σ B d) (hd : d = .list (ks.map enc) ∨ d = .tuple (ks.map enc)) : ED T K (tCB (rSortSet K w enc) (tCons (tCB (rSetOf K w enc) (tCons te tNil)) tNil)) σ B (.list ((us lt ks).map enc)) := fun H f tk Q q =>
  h H f tk _ fun v B1 H1 s1 r1 => by
    refine ⟨B1, v, ks, fz_sub s1.fz, rfl, hd.imp (fun z => by rw [← z]; exact r1) (fun z => by rw [← z]; exact r1), few, fun a L n nd hm hall => ?_⟩
    have s2 := s1.trans (St.work (T := T) (o := SetO w a L) s1.fz n)
    refine ⟨B1, a, L, fz_sub s2.fz, rfl, upd_same, fun p hp => (hm p hp).2, ?_, fun p xs ds n2 pm hx => ?_⟩
    · have : (L.map fun p => enc p.1) = (L.map (·.1)).map enc := by rw [List.map_map]; rfl
      rw [this]; exact hg _
    · obtain ⟨l', p', e'⟩ := perm_unmap (f := enc) pm (L.map (·.1)) (by rw [List.map_map]; rfl)
      have e2 : sortD ds = (us lt ks).map enc := by
        rw [e', hs, srt_uniq hlt p', us_of hlt nd fun x => ⟨fun hx => ?_, fun hx => hall x hx⟩]
        obtain ⟨q, hq, rfl⟩ := List.mem_map.mp hx
        exact (hm q hq).1
      rw [e2] at hx
      exact q _ _ _ (s2.trans (St.laid s2.fz n2 noT_lst)) (Dp.newL (s2.fz.off n2) hx)
theorem gd_S (l : Ks) : Gd (l.map PyData.str) := .inl ⟨l, rfl⟩
theorem gd_T (l : Kss) : Gd (l.map dT) := .inr ⟨l, rfl⟩
/-! list + list, tuple + tuple, parts -/
abbrev rCatS (K : PySem.W.Frag) : R2 := fun x y H Q => ∃ l b xs zs, x = .ref l ∧ y = .ref b ∧ SqL K H l xs ∧ SqL K H b zs ∧ xs.length + zs.length ≤ sizeLine ∧ ∀ p, H p = none → Q (.ref p) (upd H p (.lst (xs ++ zs)))
theorem kCatL {X : Cx} {K : PySem.W.Frag} (hK : X.K = K) : OpR X (binaryOp .Add) (rCatS K) := by
  subst hK
  intro pins s σ H x y v u Q I rx ry h
  obtain ⟨l, b, xs, zs, rfl, rfl, hH, hB, hz, q⟩ := h
  cases rx
  cases ry
  obtain ⟨its, r, pl, _⟩ := I.list hH
  obtain ⟨its2, r2, pl2, _⟩ := I.list hB
  have hl := r.length
  have hl2 := r2.length
  obtain ⟨⟨cls, dd, data, sl⟩, ho, hc, n, hd⟩ := pl.isList
  obtain ⟨⟨cls2, dd2, data2, sl2⟩, ho2, hc2, n2, hd2⟩ := pl2.isList
  simp only at hc hd hc2 hd2
  subst hc hd hc2 hd2
  have ea : its.toArray ++ its2.toArray = (its ++ its2).toArray := by simp
  refine PySem.concat_meets ⟨_, ho, rfl⟩ ⟨_, ho2, rfl⟩ noFill_list_add seq_list_add PySem.F.slot_list_add PySem.F.entry_list_add (PySem.F.args_list_add_2 _ _) (PyProof.Rows.list_addW l b its.toArray its2.toArray n n2 dd dd2 sl sl2 (by simp only [List.size_toArray]; omega)) ⟨ho, ho2, ?_⟩
  rw [ea]
  exact ⟨.ref _, _, I.lnew (t' := s.toks) (r.append r2) (by rw [List.length_append]; omega), rfl, q _ I.fresh⟩
theorem ed_catL {xs ys : List PyData} (h : ED T K ta σ B (.list xs)) (h2 : ED T K tb σ B (.list ys)) (hz : xs.length + ys.length ≤ sizeLine) : ED T K (tOp (rCatS K) ta tb) σ B (.list (xs ++ ys)) := fun H f tk Q q =>
  h H f tk _ fun v B1 H1 s1 r1 => h2.sub s1.sub H1 s1.fz (s1.ok tk) _ fun w B2 H2 s2 r2 => by
    cases r1 with
    | lst hx t =>
    cases r2 with
    | lst hy t2 =>
      refine ⟨_, _, _, _, rfl, rfl, sqL_sub (fz_sub s2.fz) (sqL_sub s2.sub hx), sqL_sub (fz_sub s2.fz) hy, by rw [t.length, t2.length]; exact hz, fun p n => ?_⟩
      exact q _ _ _ ((s1.trans s2).trans (St.laid s2.fz n noT_lst)) (Dp.newL (s2.fz.off n) (DpAll.append (DpAll.sub s2.sub _ _ t) t2))
theorem ed_catT {xs ys : List PyData} (h : ED T K ta σ B (.tuple xs)) (h2 : ED T K tb σ B (.tuple ys)) (hz : xs.length + ys.length ≤ sizeLine) : ED T K (tOp (rCatA K) ta tb) σ B (.tuple (xs ++ ys)) := fun H f tk Q q =>
  h H f tk _ fun v B1 H1 s1 r1 => h2.sub s1.sub H1 s1.fz (s1.ok tk) _ fun w B2 H2 s2 r2 => by
    cases r1 with
    | @tup a zs _ hx t =>
    cases r2 with
    | @tup b ws _ hy t2 =>
      have hx2 := sqT_sub s2.sub hx
      have tt := DpAll.sub s2.sub _ _ t
      refine ⟨_, _, _, _, rfl, rfl, sqT_sub (fz_sub s2.fz) hx2, sqT_sub (fz_sub s2.fz) hy, by rw [t.length, t2.length]; exact hz, fun e => ?_, fun e e2 => ?_, fun _ _ p n => ?_⟩
      · subst e
        have : xs = [] := by cases t; rfl
        subst this
        exact q _ _ _ (s1.trans s2) (.tup hy t2)
      · subst e2
        have : ys = [] := by cases t2; rfl
        subst this
        have : xs ++ [] = xs := List.append_nil xs
        exact q _ _ _ (s1.trans s2) (by rw [this]; exact .tup hx2 tt)
      · exact q _ _ _ ((s1.trans s2).trans (St.laid s2.fz n noT_tup)) (Dp.newT (s2.fz.off n) (DpAll.append tt t2))
end
end Vk

set_option Elab.async false
set_option linter.all false
set_option maxRecDepth 100000
set_option maxHeartbeats 4000000
/-! The plain part of the program: sets (printed by p1.py). -/
namespace Vk
open PySem L2 StX
def A_set_ofS (ds : List PyData) (d : PyData) : Prop := ∃ l : Ks, Few l ∧ (∃ e, (e = dL l ∨ e = dT l) ∧ ds = [e]) ∧ d = dT (us sLt l)
def A_set_ofT (ds : List PyData) (d : PyData) : Prop := ∃ L : Kss, Few L ∧ ds = [dLT L] ∧ d = dTT (us tLt L)
def A_tup (n : Nat) (ds : List PyData) (d : PyData) : Prop := ∃ x : PyData, x.depth ≤ n ∧ ds = [x] ∧ d = tup x
def A_subsets (ds : List PyData) (d : PyData) : Prop := ∃ l : Ks, l.length ≤ 16 ∧ ds = [dT l] ∧ d = dLT (subs l)
def A_least (ds : List PyData) (d : PyData) : Prop := ∃ L : Kss, Few L ∧ (∀ k ∈ L, k.length ≤ sizeLine) ∧ ds = [dLT L] ∧ d = dTT (least L)
section
variable {T : Tb} {B H : Hp} {o : HO} {p : Addr}
theorem Fz.withL (f : Fz B H) (n : NoT o) (h : H p = some o) : Fz (upd B p o) H := fun a u e => by
  by_cases q : a = p
  · rw [q, upd_same] at e; cases e; rw [q]; exact ⟨h, n⟩
  · rw [upd_ne q] at e; exact f a u e
theorem Sub.withL (n : B p = none) : Sub B (upd B p o) := fun a u e => by rw [upd_ne (ne_of_none e n)]; exact e
theorem St.read {B0 H0 B1 B2 H1 H2 : Hp} (s : St T B0 H0 B1 H1) (hs : Sub B1 B2) (s2 : St T B2 H1 B2 H2) : St T B0 H0 B1 H2 :=
  ⟨s.sm.trans s2.sm, s.sub, Fz.sub hs s2.fz, s.new⟩
variable {K : PySem.W.Frag} {σ : L2.St} {D : Ends} {te to : TE} {d : PyData} {acc : List V}
theorem sd_newL {i : Nat} (f : Fz B H) (k : ∀ p, H p = none → B p = none → St T B H B (upd H p (.lst [])) → D.nx (σ.set i (some (.ref p))) (upd H p (.lst []))) : tAsg (tLst tNil) (gName i) D σ H :=
  ⟨Nat.zero_le _, fun p n => k p n (f.off n) (St.work f n)⟩
/-- the list at p is in the making, ds so far; B, H: before it was laid -/
structure Mkg (T : Tb) (K : PySem.W.Frag) (B H : Hp) (p : Addr) (ds : List PyData) (B' H' : Hp) : Prop where
  st : St T B H B' H'
  n : H p = none
  nB : B' p = none
  at_ : ∃ acc, H' p = some (.lst acc) ∧ DpAll K B' acc ds
theorem Mkg.start (f : Fz B H) (n : H p = none) : Mkg T K B H p [] B (upd H p (.lst [])) := ⟨St.work f n, n, f.off n, [], upd_same, .nil⟩
theorem Mkg.step {ds : List PyData} {B1 H1 B2 H2 : Hp} (m : Mkg T K B H p ds B1 H1) (s : St T B1 H1 B2 H2) : Mkg T K B H p ds B2 H2 := by
  obtain ⟨acc, h, r⟩ := m.at_
  obtain ⟨nB, h'⟩ := s.keepL noT_lst m.nB h
  exact ⟨m.st.trans s, m.n, nB, acc, h', DpAll.sub s.sub _ _ r⟩
theorem Mkg.open {ds : List PyData} {B1 H1 : Hp} (m : Mkg T K B H p ds B1 H1) : ∃ B2, Sub B1 B2 ∧ Fz B2 H1 ∧ Dp K B2 (.ref p) (.list ds) ∧ ∀ H2, St T B2 H1 B2 H2 → Mkg T K B H p ds B1 H2 := by
  obtain ⟨acc, h, r⟩ := m.at_
  exact ⟨upd B1 p (.lst acc), Sub.withL m.nB, m.st.fz.withL noT_lst h, Dp.newL m.nB r, fun H2 s => ⟨m.st.read (Sub.withL m.nB) s, m.n, m.nB, acc, s.sm.ext p _ h noT_lst, r⟩⟩
theorem Mkg.done {ds : List PyData} {B1 H1 : Hp} (m : Mkg T K B H p ds B1 H1) : ∃ B2, St T B H B2 H1 ∧ Sub B1 B2 ∧ Dp K B2 (.ref p) (.list ds) := by
  obtain ⟨acc, h, r⟩ := m.at_
  exact ⟨upd B1 p (.lst acc), m.st.seal m.n m.nB h, Sub.withL m.nB, Dp.newL m.nB r⟩
theorem sd_app {i : Nat} {ds : List PyData} {B1 H1 : Hp} (m : Mkg T K B H p ds B1 H1) (tk : TOk T H1) (hv : σ[i]? = some (some (.ref p))) (hz : ds.length < sizeLine) (h : ED T K te σ B1 d)
    (k : ∀ B2 H2, Sub B1 B2 → Mkg T K B H p (ds ++ [d]) B2 H2 → D.nx σ H2) : tDrop (tBM K "list" rAppend (tVar i) (tCons te tNil)) D σ H1 := by
  obtain ⟨acc, hp, r⟩ := m.at_
  refine ⟨.ref p, hv, .inl ⟨rfl, _, SqL.of hp⟩, h H1 m.st.fz tk _ fun y B2 H2 s ry => ?_⟩
  obtain ⟨nB, h'⟩ := s.keepL noT_lst m.nB hp
  refine ⟨p, acc, y, rfl, rfl, h', by rw [r.length]; exact hz, k B2 _ s.sub ⟨(m.st.trans s).mut m.n nB h', m.n, nB, _, upd_same, DpAll.append (DpAll.sub s.sub _ _ r) (.cons ry .nil)⟩⟩
theorem sd_newM {i : Nat} (f : Fz B H) (k : ∀ p H1, Mkg T K B H p [] B H1 → D.nx (σ.set i (some (.ref p))) H1) : tAsg (tLst tNil) (gName i) D σ H :=
  ⟨Nat.zero_le _, fun p n => k p _ (Mkg.start f n)⟩
theorem sd_append {i : Nat} (f : Fz B H) (tk : TOk T H) (hv : σ[i]? = some (some (.ref p))) (hB : B p = none) (hp : H p = some (.lst acc)) (hz : acc.length < sizeLine) (h : ED T K te σ B d)
    (k : ∀ y B' H', St T B H B' H' → B' p = none → H' p = some (.lst acc) → Dp K B' y d → D.nx σ (upd H' p (.lst (acc ++ [y])))) : tDrop (tBM K "list" rAppend (tVar i) (tCons te tNil)) D σ H :=
  ⟨.ref p, hv, .inl ⟨rfl, _, SqL.of hp⟩, h H f tk _ fun y B' H' s r => by
    obtain ⟨nB, h'⟩ := s.keepL noT_lst hB hp
    exact ⟨p, acc, y, rfl, rfl, h', hz, k y B' H' s nB h' r⟩⟩
end
section
variable {P : Program} {w : World} {K : PySem.W.Frag} {mg : Str → Option Value} {base : Heap} {T : Tb}
theorem ok_set_ofS (c : Code K mg) : FnOk P w K mg base CX0 1 c.set_of.f c.set_of.fd ["some"] (spD T K A_set_ofS) := by
  refine pure_ok c.set_of.F sc_set_of (fun ds d h => ?_) (fun cdv A' outer s H B vs ds d E hr f tk r hA => ?_)
  · obtain ⟨l, _, ⟨e, _, rfl⟩, _⟩ := h; rfl
  · obtain ⟨l, few, ⟨e, he, rfl⟩, rfl⟩ := hA
    obtain ⟨v, rfl, rv⟩ := dpAll1 r
    have hu := hr.u64
    refine ⟨_, (pss_one (ps_ret (pe_callTy (kTuple (K := K) rfl) (by rfl) c.m_tuple (by decide +kernel) (pa_cons (pe_callB (cSortSet (K := K) (enc := (elS P w).enc) rfl rfl hu) (by rfl) c.m_sorted (by decide +kernel) (pa_cons (pe_callTy (cSetOf (K := K) rfl rfl hu (elS P w) elS_of) (by rfl) c.m_set (by decide +kernel) (pa_cons (pv 0) pa_nil)) pa_nil)) pa_nil)))), fun D q => ?_⟩
    exact sd_ret f tk (ed_tupleOf (ed_srtSet (κ := Str) (enc := PyData.str) sLt_to sortD_S gd_S few (ed_var rfl rv) he) (.inl rfl)) q
theorem ok_set_ofT (c : Code K mg) : FnOk P w K mg base CX0 1 c.set_of.f c.set_of.fd ["some"] (spD T K A_set_ofT) := by
  refine pure_ok c.set_of.F sc_set_of (fun ds d h => ?_) (fun cdv A' outer s H B vs ds d E hr f tk r hA => ?_)
  · obtain ⟨l, _, rfl, _⟩ := h; rfl
  · obtain ⟨l, few, rfl, rfl⟩ := hA
    obtain ⟨v, rfl, rv⟩ := dpAll1 r
    have hu := hr.u64
    refine ⟨_, (pss_one (ps_ret (pe_callTy (kTuple (K := K) rfl) (by rfl) c.m_tuple (by decide +kernel) (pa_cons (pe_callB (cSortSet (K := K) (enc := (elT P w).enc) rfl rfl hu) (by rfl) c.m_sorted (by decide +kernel) (pa_cons (pe_callTy (cSetOf (K := K) rfl rfl hu (elT P w) elT_of) (by rfl) c.m_set (by decide +kernel) (pa_cons (pv 0) pa_nil)) pa_nil)) pa_nil)))), fun D q => ?_⟩
    exact sd_ret f tk (ed_tupleOf (ed_srtSet (κ := Ks) (enc := dT) tLt_to sortD_T gd_T few (ed_var rfl rv) (.inl rfl)) (.inl rfl)) q
theorem tup_step (c : Code K mg) {n : Nat} (G_tupled : FnOk P w K mg base CX0 n c.tupled.f c.tupled.fd ["value"] (spD T K fun ds d => ∃ x : PyData, x.depth < n ∧ ds = [x] ∧ d = tup x)) : FnOk P w K mg base CX0 (n + 1) c.tupled.f c.tupled.fd ["value"] (spD T K (A_tup n)) := by
  refine pure_ok c.tupled.F sc_tupled (fun ds d h => ?_) (fun cdv A' outer s H B vs ds d E hr f tk r hA => ?_)
  · obtain ⟨x, _, rfl, _⟩ := h; rfl
  · obtain ⟨x, hd, rfl, rfl⟩ := hA
    obtain ⟨v, rfl, rv⟩ := dpAll1 r
    cases x with
      | list xs =>
        refine ⟨_, (pss_one (ps_ret (pe_ifExp (pt_val (pe_callB (kIsiT (K := K) rfl) (by rfl) c.m_isinstance (by decide +kernel) (pa_cons (pv 0) (pa_cons (pe_tup (pa_cons (pe_tyn (c := "list") (by rfl) c.m_list (by decide +kernel)) (pa_cons (pe_tyn (c := "tuple") (by rfl) c.m_tuple (by decide +kernel)) pa_nil))) pa_nil)))) (pe_callTy (kTuple (K := K) rfl) (by rfl) c.m_tuple (by decide +kernel) (pa_cons (pe_lc (own := [("part", 1)]) (g := gName 1) (tt := tYes) rfl sc_tupled.nd (kPiL (K := K) rfl (kSz (K := K) rfl (pv 0))) (blkOk_by (N := ["value", "part"]) (sc := defScope s_tupled) (by decide +kernel)) (fun _ _ _ _ _ => pg_name (i := 1) sc_tupled.nd rfl (Or.inl rfl)) (fun _ _ _ _ _ => pts_nil) (fun _ _ _ _ _ => (pe_call G_tupled hr (by rfl) c.tupled.g c.tupled.F.kp c.tupled.b .nil pass0 (pa_cons (pv 1) pa_nil)))) pa_nil)) (pv 0)))), fun D q => ?_⟩
        refine sd_ret f tk (ed_if (b := true) (et_test (ed_isiT (ed_var rfl rv) (.inl rfl) (.inr (.inl rfl)))) (fun _ => (ed_tupleOf (ds := xs.map tup) (ed_mapL (enc := id) (xs := xs) tup ((ed_var rfl rv).is (by rw [List.map_id])) (fun _ => rfl) (fun x hx v1 B1 sb rv1 =>
          ed_call (eda_cons (ed_var rfl rv1) eda_nil) ⟨x, ?_, rfl, rfl⟩)) (.inl rfl)).is (by rw [tup_list])) (fun z => by cases z)) q
        rw [dep_list] at hd
        exact Nat.lt_of_le_of_lt (dep_le (Nat.le_refl _) x hx) hd
      | tuple xs =>
        refine ⟨_, (pss_one (ps_ret (pe_ifExp (pt_val (pe_callB (kIsiT (K := K) rfl) (by rfl) c.m_isinstance (by decide +kernel) (pa_cons (pv 0) (pa_cons (pe_tup (pa_cons (pe_tyn (c := "list") (by rfl) c.m_list (by decide +kernel)) (pa_cons (pe_tyn (c := "tuple") (by rfl) c.m_tuple (by decide +kernel)) pa_nil))) pa_nil)))) (pe_callTy (kTuple (K := K) rfl) (by rfl) c.m_tuple (by decide +kernel) (pa_cons (pe_lc (own := [("part", 1)]) (g := gName 1) (tt := tYes) rfl sc_tupled.nd (kPiT (K := K) rfl (kSz (K := K) rfl (pv 0))) (blkOk_by (N := ["value", "part"]) (sc := defScope s_tupled) (by decide +kernel)) (fun _ _ _ _ _ => pg_name (i := 1) sc_tupled.nd rfl (Or.inl rfl)) (fun _ _ _ _ _ => pts_nil) (fun _ _ _ _ _ => (pe_call G_tupled hr (by rfl) c.tupled.g c.tupled.F.kp c.tupled.b .nil pass0 (pa_cons (pv 1) pa_nil)))) pa_nil)) (pv 0)))), fun D q => ?_⟩
        refine sd_ret f tk (ed_if (b := true) (et_test (ed_isiT (ed_var rfl rv) (.inl rfl) (.inr (.inl rfl)))) (fun _ => (ed_tupleOf (ds := xs.map tup) (ed_mapT (enc := id) (xs := xs) tup ((ed_var rfl rv).is (by rw [List.map_id])) (fun _ => rfl) (fun x hx v1 B1 sb rv1 =>
          ed_call (eda_cons (ed_var rfl rv1) eda_nil) ⟨x, ?_, rfl, rfl⟩)) (.inl rfl)).is (by rw [tup_tuple])) (fun z => by cases z)) q
        rw [dep_tuple] at hd
        exact Nat.lt_of_le_of_lt (dep_le (Nat.le_refl _) x hx) hd
      | none =>
        refine ⟨_, (pss_one (ps_ret (pe_ifExp (pt_val (pe_callB (kIsiT (K := K) rfl) (by rfl) c.m_isinstance (by decide +kernel) (pa_cons (pv 0) (pa_cons (pe_tup (pa_cons (pe_tyn (c := "list") (by rfl) c.m_list (by decide +kernel)) (pa_cons (pe_tyn (c := "tuple") (by rfl) c.m_tuple (by decide +kernel)) pa_nil))) pa_nil)))) (pe_callTy (kTuple (K := K) rfl) (by rfl) c.m_tuple (by decide +kernel) (pa_cons (pe_lc (own := [("part", 1)]) (g := gName 1) (tt := tYes) rfl sc_tupled.nd (kPiL (K := K) rfl (kSz (K := K) rfl (pv 0))) (blkOk_by (N := ["value", "part"]) (sc := defScope s_tupled) (by decide +kernel)) (fun _ _ _ _ _ => pg_name (i := 1) sc_tupled.nd rfl (Or.inl rfl)) (fun _ _ _ _ _ => pts_nil) (fun _ _ _ _ _ => (pe_call G_tupled hr (by rfl) c.tupled.g c.tupled.F.kp c.tupled.b .nil pass0 (pa_cons (pv 1) pa_nil)))) pa_nil)) (pv 0)))), fun D q => ?_⟩
        exact sd_ret f tk (ed_if (b := false) (et_test (ed_isiT (ed_var rfl rv) (.inl rfl) (.inr (.inl rfl)))) (fun z => by cases z) (fun _ => (ed_var rfl rv).is (by rw [tup]))) q
      | bool b =>
        refine ⟨_, (pss_one (ps_ret (pe_ifExp (pt_val (pe_callB (kIsiT (K := K) rfl) (by rfl) c.m_isinstance (by decide +kernel) (pa_cons (pv 0) (pa_cons (pe_tup (pa_cons (pe_tyn (c := "list") (by rfl) c.m_list (by decide +kernel)) (pa_cons (pe_tyn (c := "tuple") (by rfl) c.m_tuple (by decide +kernel)) pa_nil))) pa_nil)))) (pe_callTy (kTuple (K := K) rfl) (by rfl) c.m_tuple (by decide +kernel) (pa_cons (pe_lc (own := [("part", 1)]) (g := gName 1) (tt := tYes) rfl sc_tupled.nd (kPiL (K := K) rfl (kSz (K := K) rfl (pv 0))) (blkOk_by (N := ["value", "part"]) (sc := defScope s_tupled) (by decide +kernel)) (fun _ _ _ _ _ => pg_name (i := 1) sc_tupled.nd rfl (Or.inl rfl)) (fun _ _ _ _ _ => pts_nil) (fun _ _ _ _ _ => (pe_call G_tupled hr (by rfl) c.tupled.g c.tupled.F.kp c.tupled.b .nil pass0 (pa_cons (pv 1) pa_nil)))) pa_nil)) (pv 0)))), fun D q => ?_⟩
        exact sd_ret f tk (ed_if (b := false) (et_test (ed_isiT (ed_var rfl rv) (.inl rfl) (.inr (.inl rfl)))) (fun z => by cases z) (fun _ => (ed_var rfl rv).is (by rw [tup]))) q
      | int i =>
        refine ⟨_, (pss_one (ps_ret (pe_ifExp (pt_val (pe_callB (kIsiT (K := K) rfl) (by rfl) c.m_isinstance (by decide +kernel) (pa_cons (pv 0) (pa_cons (pe_tup (pa_cons (pe_tyn (c := "list") (by rfl) c.m_list (by decide +kernel)) (pa_cons (pe_tyn (c := "tuple") (by rfl) c.m_tuple (by decide +kernel)) pa_nil))) pa_nil)))) (pe_callTy (kTuple (K := K) rfl) (by rfl) c.m_tuple (by decide +kernel) (pa_cons (pe_lc (own := [("part", 1)]) (g := gName 1) (tt := tYes) rfl sc_tupled.nd (kPiL (K := K) rfl (kSz (K := K) rfl (pv 0))) (blkOk_by (N := ["value", "part"]) (sc := defScope s_tupled) (by decide +kernel)) (fun _ _ _ _ _ => pg_name (i := 1) sc_tupled.nd rfl (Or.inl rfl)) (fun _ _ _ _ _ => pts_nil) (fun _ _ _ _ _ => (pe_call G_tupled hr (by rfl) c.tupled.g c.tupled.F.kp c.tupled.b .nil pass0 (pa_cons (pv 1) pa_nil)))) pa_nil)) (pv 0)))), fun D q => ?_⟩
        exact sd_ret f tk (ed_if (b := false) (et_test (ed_isiT (ed_var rfl rv) (.inl rfl) (.inr (.inl rfl)))) (fun z => by cases z) (fun _ => (ed_var rfl rv).is (by rw [tup]))) q
      | str s =>
        refine ⟨_, (pss_one (ps_ret (pe_ifExp (pt_val (pe_callB (kIsiT (K := K) rfl) (by rfl) c.m_isinstance (by decide +kernel) (pa_cons (pv 0) (pa_cons (pe_tup (pa_cons (pe_tyn (c := "list") (by rfl) c.m_list (by decide +kernel)) (pa_cons (pe_tyn (c := "tuple") (by rfl) c.m_tuple (by decide +kernel)) pa_nil))) pa_nil)))) (pe_callTy (kTuple (K := K) rfl) (by rfl) c.m_tuple (by decide +kernel) (pa_cons (pe_lc (own := [("part", 1)]) (g := gName 1) (tt := tYes) rfl sc_tupled.nd (kPiL (K := K) rfl (kSz (K := K) rfl (pv 0))) (blkOk_by (N := ["value", "part"]) (sc := defScope s_tupled) (by decide +kernel)) (fun _ _ _ _ _ => pg_name (i := 1) sc_tupled.nd rfl (Or.inl rfl)) (fun _ _ _ _ _ => pts_nil) (fun _ _ _ _ _ => (pe_call G_tupled hr (by rfl) c.tupled.g c.tupled.F.kp c.tupled.b .nil pass0 (pa_cons (pv 1) pa_nil)))) pa_nil)) (pv 0)))), fun D q => ?_⟩
        exact sd_ret f tk (ed_if (b := false) (et_test (ed_isiT (ed_var rfl rv) (.inl rfl) (.inr (.inl rfl)))) (fun z => by cases z) (fun _ => (ed_var rfl rv).is (by rw [tup]))) q
      | dict k =>
        refine ⟨_, (pss_one (ps_ret (pe_ifExp (pt_val (pe_callB (kIsiT (K := K) rfl) (by rfl) c.m_isinstance (by decide +kernel) (pa_cons (pv 0) (pa_cons (pe_tup (pa_cons (pe_tyn (c := "list") (by rfl) c.m_list (by decide +kernel)) (pa_cons (pe_tyn (c := "tuple") (by rfl) c.m_tuple (by decide +kernel)) pa_nil))) pa_nil)))) (pe_callTy (kTuple (K := K) rfl) (by rfl) c.m_tuple (by decide +kernel) (pa_cons (pe_lc (own := [("part", 1)]) (g := gName 1) (tt := tYes) rfl sc_tupled.nd (kPiL (K := K) rfl (kSz (K := K) rfl (pv 0))) (blkOk_by (N := ["value", "part"]) (sc := defScope s_tupled) (by decide +kernel)) (fun _ _ _ _ _ => pg_name (i := 1) sc_tupled.nd rfl (Or.inl rfl)) (fun _ _ _ _ _ => pts_nil) (fun _ _ _ _ _ => (pe_call G_tupled hr (by rfl) c.tupled.g c.tupled.F.kp c.tupled.b .nil pass0 (pa_cons (pv 1) pa_nil)))) pa_nil)) (pv 0)))), fun D q => ?_⟩
        exact sd_ret f tk (ed_if (b := false) (et_test (ed_isiT (ed_var rfl rv) (.inl rfl) (.inr (.inl rfl)))) (fun z => by cases z) (fun _ => (ed_var rfl rv).is (by rw [tup]))) q
theorem tup_none (c : Code K mg) : FnOk P w K mg base CX0 0 c.tupled.f c.tupled.fd ["value"] (spD T K fun ds d => ∃ x : PyData, x.depth < 0 ∧ ds = [x] ∧ d = tup x) := by
  refine ⟨fun vs H Q E h => ?_, fun A outer s H args us vs Q E _ _ _ _ h => ?_⟩
  · obtain ⟨_, _, _, _, _, _, ⟨x, hx, _⟩, _⟩ := h; omega
  · obtain ⟨_, _, _, _, _, _, ⟨x, hx, _⟩, _⟩ := h; omega
theorem spD_sub {A A' : List PyData → PyData → Prop} (h : ∀ ds d, A' ds d → A ds d) : ∀ vs H Q E, spD T K A' vs H Q E → spD T K A vs H Q E := fun vs H Q E ⟨B, ds, d, f, tk, r, a, q⟩ => ⟨B, ds, d, f, tk, r, h ds d a, q⟩
theorem ok_tupled (c : Code K mg) : ∀ n, FnOk P w K mg base CX0 (n + 1) c.tupled.f c.tupled.fd ["value"] (spD T K (A_tup n))
  | 0 => tup_step c (tup_none c)
  | n + 1 => tup_step c ((ok_tupled c n).imp (spD_sub fun ds d ⟨x, hx, e1, e2⟩ => ⟨x, Nat.le_of_lt_succ hx, e1, e2⟩))
theorem ok_is_within (c : Code K mg) : FnOk P w K mg base CX0 1 c.is_within.f c.is_within.fd ["some", "others"] (spD T K A_is_within) := by
  refine pure_ok c.is_within.F sc_is_within (fun ds d h => ?_) (fun cdv A' outer s H B vs ds d E hr f tk r hA => ?_)
  · obtain ⟨a, b, rfl, _⟩ := h; rfl
  · obtain ⟨a, b, rfl, rfl⟩ := hA
    obtain ⟨v, u, rfl, r1, r2⟩ := DpAll.two r
    refine ⟨_, (pss_one (ps_ret (pe_callB (kAll (K := K) rfl rfl) (by rfl) c.m_all (by decide +kernel) (pa_cons (pe_lc (own := [("own", 2)]) (g := gName 2) (tt := tYes) rfl sc_is_within.nd (kPiT (K := K) rfl (kSz (K := K) rfl (pv 0))) (blkOk_by (N := ["some", "others", "own"]) (sc := defScope s_is_within) (by decide +kernel)) (fun _ _ _ _ _ => pg_name (i := 2) sc_is_within.nd rfl (Or.inl rfl)) (fun _ _ _ _ _ => pts_nil) (fun _ _ _ _ _ => (pe_cmpR (kIn (K := K) rfl) (pv 2) (pv 1) (by rfl)))) pa_nil)))), fun D q => ?_⟩
    refine sd_ret f tk ((ed_all (bs := a.map fun x => decide (x ∈ b)) ((ed_mapT (enc := PyData.str) (xs := a) (fun x => .bool (decide (x ∈ b))) (ed_var rfl r1) (fun _ => rfl)
      fun x _ v B1 sb rv => ed_in (ed_var rfl rv) (ed_var rfl (Dp.sub sb _ _ r2)) (.inr rfl)).is ?_)).is ?_) q
    · rw [List.map_map]; rfl
    · unfold wi; rw [List.all_map]; rfl
theorem ok_has_opener (c : Code K mg) (G_is_within : FnOk P w K mg base CX0 1 c.is_within.f c.is_within.fd ["some", "others"] (spD T K A_is_within)) : FnOk P w K mg base CX0 2 c.has_opener.f c.has_opener.fd ["openers", "held"] (spD T K A_has_opener) := by
  refine pure_ok c.has_opener.F sc_has_opener (fun ds d h => ?_) (fun cdv A' outer s H B vs ds d E hr f tk r hA => ?_)
  · obtain ⟨a, b, rfl, _⟩ := h; rfl
  · obtain ⟨a, b, rfl, rfl⟩ := hA
    obtain ⟨v, u, rfl, r1, r2⟩ := DpAll.two r
    refine ⟨_, (pss_one (ps_ret (pe_callB (kAny (K := K) rfl rfl) (by rfl) c.m_any (by decide +kernel) (pa_cons (pe_lc (own := [("own", 2)]) (g := gName 2) (tt := tYes) rfl sc_has_opener.nd (kPiT (K := K) rfl (kSz (K := K) rfl (pv 0))) (blkOk_by (N := ["openers", "held", "own"]) (sc := defScope s_has_opener) (by decide +kernel)) (fun _ _ _ _ _ => pg_name (i := 2) sc_has_opener.nd rfl (Or.inl rfl)) (fun _ _ _ _ _ => pts_nil) (fun _ _ _ _ _ => (pe_call G_is_within (hr.mono (by decide)) (by rfl) c.is_within.g c.is_within.F.kp c.is_within.b .nil pass0 (pa_cons (pv 2) (pa_cons (pv 1) pa_nil))))) pa_nil)))), fun D q => ?_⟩
    refine sd_ret f tk ((ed_any (bs := a.map fun x => wi x b) ((ed_mapT (enc := dT) (xs := a) (fun x => .bool (wi x b)) (ed_var rfl r1) (fun _ => rfl)
      fun x _ v B1 sb rv => ed_call (eda_cons (ed_var rfl rv) (eda_cons (ed_var rfl (Dp.sub sb _ _ r2)) eda_nil)) ⟨x, b, rfl, rfl⟩).is ?_)).is ?_) q
    · rw [List.map_map]; rfl
    · unfold ho; rw [List.any_map]; rfl
theorem subsU_snoc (l : Ks) (o : Str) : subsU (l ++ [o]) = subsU l ++ (subsU l).map fun a => a ++ [o] := by unfold subsU; rw [List.foldl_append]; rfl
theorem subsU_len (l : Ks) : (subsU l).length = 2 ^ l.length := by
  have : ∀ (n : Nat) (l : Ks), l.length = n → (subsU l).length = 2 ^ n := by
    intro n
    induction n with
    | zero => intro l h; rw [List.length_eq_zero_iff.mp h]; rfl
    | succ n ih =>
      intro l h
      rcases List.eq_nil_or_concat l with z | ⟨l', b, rfl⟩
      · rw [z] at h; cases h
      · rw [List.concat_eq_append] at h ⊢
        rw [subsU_snoc, List.length_append, List.length_map, ih l' (by rw [List.length_append] at h; exact Nat.succ.inj h), Nat.pow_succ]
        omega
  exact this _ l rfl
theorem subs_len (l : Ks) (h : l.length ≤ 16) : (subsU l).length ≤ 65536 := by
  rw [subsU_len]
  exact Nat.pow_le_pow_right (by decide) h
theorem subs_el {l a : Ks} (ha : a ∈ subsU l) : a.length ≤ l.length := by
  have : ∀ (n : Nat) (l : Ks), l.length = n → ∀ a ∈ subsU l, a.length ≤ n := by
    intro n
    induction n with
    | zero =>
      intro l h a ha
      rw [List.length_eq_zero_iff.mp h] at ha
      rw [List.mem_singleton.mp ha]; exact Nat.le_refl _
    | succ n ih =>
      intro l h a ha
      rcases List.eq_nil_or_concat l with z | ⟨l', b, rfl⟩
      · rw [z] at h; cases h
      · rw [List.concat_eq_append] at h ha
        rw [subsU_snoc] at ha
        have hl : l'.length = n := by rw [List.length_append] at h; exact Nat.succ.inj h
        rcases List.mem_append.mp ha with ha | ha
        · exact Nat.le_succ_of_le (ih _ hl a ha)
        · obtain ⟨b, hb, rfl⟩ := List.mem_map.mp ha
          rw [List.length_append]
          exact Nat.succ_le_succ (ih _ hl b hb)
  exact this _ l rfl a ha
theorem ok_subsets (c : Code K mg) : FnOk P w K mg base CX0 1 c.subsets.f c.subsets.fd ["things"] (spD T K A_subsets) := by
  refine pure_ok c.subsets.F sc_subsets (fun ds d h => ?_) (fun cdv A' outer s H B vs ds d E hr f tk r hA => ?_)
  · obtain ⟨l, _, rfl, _⟩ := h; rfl
  · obtain ⟨l, hl, rfl, rfl⟩ := hA
    obtain ⟨v, rfl, rv⟩ := dpAll1 r
    have hu := hr.u64
    have big : (65536 : Nat) + 65536 ≤ sizeLine := by rw [sizeLine_eq]; omega
    refine ⟨_, (pss_cons (ps_set (i := 1) sc_subsets.nd rfl (Or.inl rfl) (pe_lst (pa_cons (pe_tup pa_nil) pa_nil))) (pss_cons (ps_for PassesOwn.never rfl (kPiT (K := K) rfl (kSz (K := K) rfl (pv 0))) (pg_name (i := 2) sc_subsets.nd rfl (Or.inr rfl)) (pss_one (ps_set (i := 1) sc_subsets.nd rfl (Or.inl rfl) (pe_op (kCatL (K := K) rfl) (pv 1) (pe_lc (own := [("lot", 3)]) (g := gName 3) (tt := tYes) rfl sc_subsets.nd (kPiL (K := K) rfl (kSz (K := K) rfl (pv 1))) (blkOk_by (N := ["things", "found", "own", "lot"]) (sc := defScope s_subsets) (by decide +kernel)) (fun _ _ _ _ _ => pg_name (i := 3) sc_subsets.nd rfl (Or.inl rfl)) (fun _ _ _ _ _ => pts_nil) (fun _ _ _ _ _ => (pe_tup (kStar (K := K) rfl (pv 3) (pa_cons (pv 2) pa_nil))))))))) (pss_one (ps_ret (pe_callB (kSrt (K := K) rfl hu) (by rfl) c.m_sorted (by decide +kernel) (pa_cons (pv 1) pa_nil)))))), fun D q => ?_⟩
    refine sd_asg (K := K) f tk (ed_lst (eda_cons (ed_tup eda_nil (Nat.zero_le _)) eda_nil) (by show 1 ≤ sizeLine; omega)) fun vf B1 H1 s1 r1 => ?_
    refine sd_forT (enc := PyData.str) (xs := l) s1.fz (s1.ok tk) (ed_var rfl (Dp.sub s1.sub _ _ rv)) fun B2 H2 s2 => ?_
    have s12 := s1.trans s2
    refine ⟨fun i σ' H' => ∃ vf o2 o3 B', σ' = [some v, some vf, o2, o3] ∧ St T B2 H2 B' H' ∧ Dp K B' vf (dLT (subsU (l.take i))), ?_, ?_, ?_, ?_⟩
    · exact ⟨vf, none, none, B2, rfl, St.refl s2.fz, Dp.sub s2.sub _ _ r1⟩
    · rintro i σ' H' ⟨_, _, _, B', _, s, _⟩
      exact Fz.sub s.sub s.fz
    · rintro i x v1 σ' H' hx rx ⟨vf, o2, o3, B', rfl, s, rf⟩
      have hi : i < l.length := (List.getElem?_eq_some_iff.mp hx).1
      have e1 : l.take (i + 1) = l.take i ++ [x] := by rw [List.take_succ, hx]; rfl
      have hz : (subsU (l.take i)).length ≤ 65536 := subs_len _ (by rw [List.length_take]; omega)
      refine sd_asg s.fz (s.ok (s12.ok tk)) (ed_catL (ed_var rfl rf) (ed_mapL (enc := dT) (xs := subsU (l.take i)) (fun a => dT (a ++ [x])) (ed_var rfl rf) (fun _ => rfl) fun a ha va B3 sb ra => ?_) ?_) fun vn B4 H4 s4 r4 => ?_
      · refine (ed_tup (eda_star (ed_var rfl ra) (.inr rfl) (eda_cons (ed_var rfl (Dp.sub (s.sub.trans sb) _ _ rx)) eda_nil)) ?_).is ?_
        · have := subs_el ha
          rw [List.length_take] at this
          rw [List.length_append, List.length_map]
          show a.length + 1 ≤ sizeLine
          omega
        · unfold dT; rw [List.map_append]; rfl
      · rw [List.length_map, List.length_map]; omega
      · refine ⟨vn, _, o3, B4, rfl, s.trans s4, ?_⟩
        rw [e1, subsU_snoc]
        unfold dLT
        rw [List.map_append, List.map_map]
        exact r4
    · rintro σ' H' ⟨vf, o2, o3, B', rfl, s, rf⟩
      rw [List.take_length] at rf
      exact sd_ret s.fz (s.ok (s12.ok tk)) ((ed_srt (ed_var rfl rf) (gd_T _)).is (by unfold dLT subs; rw [sortD_T])) fun v' B' H' s' r' => q v' B' H' ((s12.trans s).trans s') r'
theorem leastF_snoc (L : Kss) (a : Ks) : leastF (L ++ [a]) = if (leastF L).any (fun o => wi o a) then leastF L else leastF L ++ [a] := by unfold leastF; rw [List.foldl_append]; rfl
theorem leastF_len (L : Kss) : ∀ i, (leastF (L.take i)).length ≤ i := by
  intro i
  induction i with
  | zero => exact Nat.le_refl _
  | succ i ih =>
    cases q : L[i]? with
    | none =>
      have : L.take (i + 1) = L.take i := by rw [List.take_succ, q]; simp
      rw [this]; omega
    | some a =>
      have : L.take (i + 1) = L.take i ++ [a] := by rw [List.take_succ, q]; rfl
      rw [this, leastF_snoc]
      split
      · omega
      · rw [List.length_append]; exact Nat.succ_le_succ ih
theorem ok_least_sets (c : Code K mg) (G_by_size : FnOk P w K mg base CX0 2 c.by_size.f c.by_size.fd ["sets"] (spD T K A_by_size)) (G_set_of : FnOk P w K mg base CX0 1 c.set_of.f c.set_of.fd ["some"] (spD T K A_set_ofT)) (G_is_within : FnOk P w K mg base CX0 1 c.is_within.f c.is_within.fd ["some", "others"] (spD T K A_is_within)) : FnOk P w K mg base CX0 3 c.least_sets.f c.least_sets.fd ["sets"] (spD T K A_least) := by
  refine pure_ok c.least_sets.F sc_least_sets (fun ds d h => ?_) (fun cdv A' outer s H B vs ds d E hr f tk r hA => ?_)
  · obtain ⟨l, _, _, rfl, _⟩ := h; rfl
  · obtain ⟨L, few, hz, rfl, rfl⟩ := hA
    obtain ⟨v, rfl, rv⟩ := dpAll1 r
    have hu := hr.u64
    have len62 : (srt zLt (us tLt L)).length < 62 := by
      obtain ⟨U, hU, hin⟩ := few
      rw [(srt_perm _).length_eq]
      exact Nat.lt_of_le_of_lt (nodup_le _ U (us_nodup tLt_to L) fun x hx => hin x (mem_us.mp hx)) hU
    have hsl : sizeLine = 2 ^ 24 := sizeLine_eq
    refine ⟨_, (pss_cons (ps_set (i := 1) sc_least_sets.nd rfl (Or.inl rfl) (pe_lst pa_nil)) (pss_cons (ps_for PassesOwn.never rfl (kPiL (K := K) rfl (kSz (K := K) rfl (pe_call G_by_size (hr.mono (by decide)) (by rfl) c.by_size.g c.by_size.F.kp c.by_size.b .nil pass0 (pa_cons (pe_call G_set_of (hr.mono (by decide)) (by rfl) c.set_of.g c.set_of.F.kp c.set_of.b .nil pass0 (pa_cons (pv 0) pa_nil)) pa_nil)))) (pg_name (i := 2) sc_least_sets.nd rfl (Or.inr rfl)) (pss_one (ps_if (pt_not (pt_val (pe_callB (kAny (K := K) rfl rfl) (by rfl) c.m_any (by decide +kernel) (pa_cons (pe_lc (own := [("own", 3)]) (g := gName 3) (tt := tYes) rfl sc_least_sets.nd (kPiL (K := K) rfl (kSz (K := K) rfl (pv 1))) (blkOk_by (N := ["sets", "found", "lot", "own"]) (sc := defScope s_least_sets) (by decide +kernel)) (fun _ _ _ _ _ => pg_name (i := 3) sc_least_sets.nd rfl (Or.inl rfl)) (fun _ _ _ _ _ => pts_nil) (fun _ _ _ _ _ => (pe_call G_is_within (hr.mono (by decide)) (by rfl) c.is_within.g c.is_within.F.kp c.is_within.b .nil pass0 (pa_cons (pv 3) (pa_cons (pv 2) pa_nil))))) pa_nil)))) (pss_one (ps_expr (pe_bm PySem.F.plainAttrs_list PySem.F.slot_list_append PySem.F.type_list_append mt_append (pv 1) (pa_cons (pv 2) pa_nil)))) pss_nil))) (pss_one (ps_ret (pe_callTy (kTuple (K := K) rfl) (by rfl) c.m_tuple (by decide +kernel) (pa_cons (pe_callB (kSrt (K := K) rfl hu) (by rfl) c.m_sorted (by decide +kernel) (pa_cons (pv 1) pa_nil)) pa_nil)))))), fun D q => ?_⟩
    refine sd_newM (T := T) (K := K) f fun p H0 m0 => ?_
    refine sd_forL (enc := dT) (xs := srt zLt (us tLt L)) m0.st.fz (m0.st.ok tk) (ed_call (eda_cons (ed_call (eda_cons (ed_var rfl rv) eda_nil) ⟨L, few, rfl, rfl⟩) eda_nil) ⟨us tLt L, fun k hk => hz k (mem_us.mp hk), rfl, rfl⟩) fun B1 H1 s1 => ?_
    refine ⟨fun i σ' H' => ∃ o2 o3 B', σ' = [some v, some (.ref p), o2, o3] ∧ Sub B1 B' ∧ Mkg T K B H p ((leastF ((srt zLt (us tLt L)).take i)).map dT) B' H', ?_, ?_, ?_, ?_⟩
    · exact ⟨none, none, B1, rfl, Sub.refl _, m0.step s1⟩
    · rintro i σ' H' ⟨_, _, _, _, sb, m⟩
      exact m.st.fz.sub sb
    · rintro i x v1 σ' H' hx rx ⟨o2, o3, B', rfl, sb, m⟩
      have hi : i < (srt zLt (us tLt L)).length := (List.getElem?_eq_some_iff.mp hx).1
      have e1 : (srt zLt (us tLt L)).take (i + 1) = (srt zLt (us tLt L)).take i ++ [x] := by rw [List.take_succ, hx]; rfl
      have hlen := leastF_len (srt zLt (us tLt L)) i
      obtain ⟨Bp, sp, fp, rp, back⟩ := m.open
      refine sd_if fp (m.st.ok tk) (et_not (et_B ((ed_any (bs := (leastF ((srt zLt (us tLt L)).take i)).map fun o => wi o x) ((ed_mapL (enc := dT) (xs := leastF ((srt zLt (us tLt L)).take i)) (fun o => .bool (wi o x)) (ed_var rfl rp) (fun _ => rfl)
        fun a _ va B3 sb3 ra => ed_call (eda_cons (ed_var rfl ra) (eda_cons (ed_var rfl (Dp.sub ((sb.trans sp).trans sb3) _ _ rx)) eda_nil)) ⟨a, x, rfl, rfl⟩).is (by rw [List.map_map]; rfl))).is (by rw [List.any_map])))) (fun hb H2 s2 => ?_) (fun hb H2 s2 => ?_)
      · refine sd_app (back H2 s2) ((back H2 s2).st.ok tk) rfl (by rw [List.length_map]; omega) (ed_var rfl (Dp.sub sb _ _ rx)) fun B4 H4 sb4 m4 => ?_
        refine ⟨_, o3, B4, rfl, sb.trans sb4, ?_⟩
        rw [e1, leastF_snoc, if_neg (by simpa using hb), List.map_append]
        exact m4
      · refine ⟨_, o3, B', rfl, sb, ?_⟩
        rw [e1, leastF_snoc, if_pos (by simpa using hb)]
        exact back H2 s2
    · rintro σ' H' ⟨o2, o3, B', rfl, sb, m⟩
      rw [List.take_length] at m
      obtain ⟨B2, s2, _, r2⟩ := m.done
      exact sd_ret s2.fz (s2.ok tk) ((ed_tupleOf (ds := (srt tLt (leastF (srt zLt (us tLt L)))).map dT) ((ed_srt (ed_var rfl r2) (gd_T _)).is (by rw [sortD_T])) (.inl rfl))) fun v' B' H' s3 r' => q v' B' H' (s2.trans s3) r'
end
end Vk

set_option Elab.async false
set_option linter.all false
set_option maxRecDepth 100000
set_option maxHeartbeats 4000000
/-! [.. for a in xs for b in ys(a)], tuples; a new list as such; defs that end without return. -/
namespace Vk
open PySem L2 StX
section
variable {T : Tb} {K : PySem.W.Frag} {σ : L2.St} {B : Hp} {tl tl1 te : TE} {tt : TT} {α β : Type} {j j2 : Nat} {xs : List α} {enc : α → PyData} {enc2 : β → PyData}
theorem cw_push {B H1 H3 B' : Hp} {D : Addr} {ds : List PyData} {d : PyData} {acc : List V} {σ3 : L2.St} {Nx : Hp → Prop} (tk : TOk T H3) (n : H1 D = none) (s : St T B H1 B' H3) (nB : B' D = none) (h : H3 D = some (.lst acc)) (r : DpAll K B' acc ds)
    (hz : ds.length < sizeLine) (he : ED T K te σ3 B' d) (k : ∀ B'' acc' H', St T B H1 B'' H' → Sub B' B'' → B'' D = none → H' D = some (.lst acc') → DpAll K B'' acc' (ds ++ [d]) → Nx H') :
    te σ3 H3 fun y H4 => ∃ acc, H4 D = some (.lst acc) ∧ acc.length < sizeLine ∧ Nx (upd H4 D (.lst (acc ++ [y]))) :=
  he H3 s.fz tk _ fun y B4 H4 s4 r4 => by
    obtain ⟨nB4, h4⟩ := s4.keepL noT_lst nB h
    exact ⟨acc, h4, by rw [r.length]; exact hz, k B4 _ _ ((s.trans s4).mut n nB4 h4) s4.sub nB4 upd_same (DpAll.append (DpAll.sub s4.sub _ _ r) (.cons r4 .nil))⟩
theorem flat_take {γ : Type} (f : α → List γ) {i : Nat} {x : α} (h : xs[i]? = some x) : (xs.take (i + 1)).flatMap f = (xs.take i).flatMap f ++ f x := by
  rw [List.take_succ, h, List.flatMap_append]
  simp
theorem ed_lc2 (ys : α → List β) (g : α → β → PyData) (h : ED T K tl σ B (.tuple (xs.map enc))) (hz : (xs.flatMap fun x => (ys x).map (g x)).length ≤ sizeLine)
    (hw : ∀ x, wipe ((wipe σ [j, j2]).set j (some x)) [j, j2] = wipe σ [j, j2])
    (hw2 : ∀ x y, wipe ((wipe ((wipe σ [j, j2]).set j (some x)) [j2]).set j2 (some y)) [j2] = wipe ((wipe σ [j, j2]).set j (some x)) [j2])
    (h1 : ∀ x ∈ xs, ∀ v B1, Sub B B1 → Dp K B1 v (enc x) → ED T K tl1 ((wipe σ [j, j2]).set j (some v)) B1 (.tuple ((ys x).map enc2)))
    (he : ∀ x ∈ xs, ∀ v y, y ∈ ys x → ∀ u B1, Sub B B1 → Dp K B1 v (enc x) → Dp K B1 u (enc2 y) → ED T K te ((wipe ((wipe σ [j, j2]).set j (some v)) [j2]).set j2 (some u)) B1 (g x y)) :
    ED T K (tLc2 (iTup K (tSz K tl)) (gName j) tYes (iTup K (tSz K tl1)) (gName j2) tYes te [j, j2] [j2]) σ B (.list (xs.flatMap fun x => (ys x).map (g x))) := fun H f tk Q q =>
  h H f tk _ fun v B1 H1 s1 r1 _ => by
    cases r1 with
    | @tup a zs _ hx t =>
      have hx1 := sqT_sub (fz_sub s1.fz) hx
      have el : zs.length = xs.length := by rw [t.length, List.length_map]
      refine ⟨a, rfl, ⟨_, hx1⟩, fun D hD => ?_⟩
      have w := walk_tup (K := K) (a := a) (xs := zs)
      refine ⟨fun i m H => m = zs.length - i ∧ i ≤ zs.length ∧ Cw T K B1 H1 D (fun i => (xs.take i).flatMap fun x => (ys x).map (g x)) i H, ⟨_, rfl, Nat.zero_le _, cw_start s1.fz hD rfl⟩, ?_⟩
      rintro i m H' ⟨rfl, hi, B', acc, s, nB, hp, r⟩
      have hG : SqT K H' a zs := sqT_sub (fz_sub s.fz) (sqT_sub s.sub hx)
      by_cases hlt : i < zs.length
      · refine .inr ⟨w.goes i H' hlt hG, fun H2 => i + 1 ≤ zs.length ∧ Cw T K B1 H1 D (fun i => (xs.take i).flatMap fun x => (ys x).map (g x)) (i + 1) H2, fun H2 h2 => ⟨zs.length - (i + 1), by omega, rfl, h2.1, h2.2⟩, fun x H2 y => ?_⟩
        obtain ⟨rfl, hxi⟩ := w.yields i H' x H2 hlt hG y
        obtain ⟨x0, e1, e2, e3⟩ := enc_at t hxi
        have e3' := Dp.sub s.sub _ _ e3
        refine ⟨hw x, ?_⟩
        show (fun b H3 => _) true H2
        simp only [if_true]
        refine h1 x0 e2 x B' (s1.sub.trans s.sub) e3' H2 s.fz (s.ok (s1.ok tk)) _ fun v1 B3 H3 s3 r3 _ => ?_
        obtain ⟨nB3, hp3⟩ := s3.keepL noT_lst nB hp
        cases r3 with
        | @tup b ws _ hy t2 =>
          have el2 : ws.length = (ys x0).length := by rw [t2.length, List.length_map]
          have w2 := walk_tup (K := K) (a := b) (xs := ws)
          refine ⟨b, rfl, ⟨_, sqT_sub (fz_sub s3.fz) hy⟩, fun k m H => m = ws.length - k ∧ k ≤ ws.length ∧ ∃ B5 acc5, St T B1 H1 B5 H ∧ Sub B3 B5 ∧ B5 D = none ∧ H D = some (.lst acc5) ∧ DpAll K B5 acc5 (((xs.take i).flatMap fun x => (ys x).map (g x)) ++ ((ys x0).take k).map (g x0)),
            ⟨_, rfl, Nat.zero_le _, B3, acc, s.trans s3, Sub.refl _, nB3, hp3, by simpa using DpAll.sub s3.sub _ _ r⟩, ?_⟩
          rintro k m H4 ⟨rfl, hk, B5, acc5, s5, sb5, nB5, hp5, r5⟩
          have hG2 : SqT K H4 b ws := sqT_sub (fz_sub s5.fz) (sqT_sub sb5 hy)
          by_cases hkl : k < ws.length
          · refine .inr ⟨w2.goes k H4 hkl hG2, fun H6 => k + 1 ≤ ws.length ∧ ∃ B5 acc5, St T B1 H1 B5 H6 ∧ Sub B3 B5 ∧ B5 D = none ∧ H6 D = some (.lst acc5) ∧ DpAll K B5 acc5 (((xs.take i).flatMap fun x => (ys x).map (g x)) ++ ((ys x0).take (k + 1)).map (g x0)), fun H6 h6 => ⟨ws.length - (k + 1), by omega, rfl, h6.1, h6.2⟩, fun u H6 y6 => ?_⟩
            obtain ⟨rfl, hui⟩ := w2.yields k H4 u H6 hkl hG2 y6
            obtain ⟨y0, g1, g2, g3⟩ := enc_at t2 hui
            have ey : (ys x0).take (k + 1) = (ys x0).take k ++ [y0] := by rw [List.take_succ, g1]; rfl
            have hlen : (((xs.take i).flatMap fun x => (ys x).map (g x)) ++ ((ys x0).take k).map (g x0)).length < sizeLine := by
              have hsp : xs = xs.take i ++ x0 :: xs.drop (i + 1) := by
                have hil : i < xs.length := (List.getElem?_eq_some_iff.mp e1).1
                rw [← List.getElem?_eq_some_iff.mp e1 |>.2]
                rw [List.getElem_cons_drop, List.take_append_drop]
              have hkl' : k < (ys x0).length := (List.getElem?_eq_some_iff.mp g1).1
              have := congrArg (fun l => (l.flatMap fun x => (ys x).map (g x)).length) hsp
              simp only [List.flatMap_append, List.flatMap_cons, List.length_append, List.length_map] at this
              rw [List.length_append, List.length_map, List.length_take]
              omega
            refine ⟨hw2 x u, cw_push (Nx := fun H6 => k + 1 ≤ ws.length ∧ ∃ B5 acc5, St T B1 H1 B5 H6 ∧ Sub B3 B5 ∧ B5 D = none ∧ H6 D = some (.lst acc5) ∧ DpAll K B5 acc5 (((xs.take i).flatMap fun x => (ys x).map (g x)) ++ ((ys x0).take (k + 1)).map (g x0)))
              (s5.ok (s1.ok tk)) hD s5 nB5 hp5 r5 hlen (he x0 e2 x y0 g2 u B5 ((s1.sub.trans (s.sub.trans s3.sub)).trans sb5) (Dp.sub (s3.sub.trans sb5) _ _ e3') (Dp.sub sb5 _ _ g3)) fun B7 acc7 H7 s7 sb7 nB7 hp7 r7 => ⟨hkl, B7, acc7, s7, sb5.trans sb7, nB7, hp7, ?_⟩⟩
            rw [ey, List.map_append, ← List.append_assoc]
            exact r7
          · have ek : k = ws.length := by omega
            refine .inl ⟨by rw [ek]; exact w2.stops H4 hG2, hlt, ?_⟩
            refine ⟨B5, acc5, s5, nB5, hp5, ?_⟩
            have : (ys x0).take k = ys x0 := List.take_of_length_le (by omega)
            rw [this] at r5
            show DpAll K B5 acc5 ((xs.take (i + 1)).flatMap fun x => (ys x).map (g x))
            rw [flat_take _ e1]
            exact r5
      · have ei : i = zs.length := by omega
        refine .inl ⟨by rw [ei]; exact w.stops H' hG, ?_⟩
        refine q (.ref D) (upd B' D (.lst acc)) H' (s1.trans (s.seal hD nB hp)) (Dp.newL nB ?_)
        have r' : DpAll K B' acc ((xs.take i).flatMap fun x => (ys x).map (g x)) := r
        rw [ei, el, List.take_length] at r'
        exact r'
end
end Vk

set_option Elab.async false
set_option linter.all false
set_option maxRecDepth 100000
set_option maxHeartbeats 4000000
/-! Sets of keys: the mathematics. -/
namespace Vk
open PySem L2 StX
/-- good keys: rising, few, texts that can be laid -/
structure WKs (ks : Ks) : Prop where
  up : Up sLt ks
  few : ks.length ≤ 5
  nm : Nms ks
def InK (ks : Ks) (L : Kss) : Prop := ∀ l ∈ L, ∀ x ∈ l, x ∈ ks
theorem up_app {l : Ks} {o : Str} (u : Up sLt (l ++ [o])) : Up sLt l ∧ ∀ x ∈ l, sLt x o = true := by
  unfold Up at *
  rw [List.pairwise_append] at u
  exact ⟨u.1, fun x hx => u.2.2 x hx o List.mem_cons_self⟩
theorem mem_subsU : ∀ (n : Nat) (ks a : Ks), ks.length = n → Up sLt ks → Up sLt a → (∀ x ∈ a, x ∈ ks) → a ∈ subsU ks := by
  intro n
  induction n with
  | zero =>
    intro ks a h _ _ hs
    have e := List.length_eq_zero_iff.mp h
    subst e
    have : a = [] := by
      cases a with
      | nil => rfl
      | cons x _ => exact absurd (hs x List.mem_cons_self) (by simp)
    rw [this]
    exact List.mem_singleton.mpr rfl
  | succ n ih =>
    intro ks a h u ua hs
    rcases List.eq_nil_or_concat ks with z | ⟨l, o, rfl⟩
    · rw [z] at h; cases h
    · rw [List.concat_eq_append] at h u hs ⊢
      have hl : l.length = n := by rw [List.length_append] at h; exact Nat.succ.inj h
      obtain ⟨ul, ho⟩ := up_app u
      rw [subsU_snoc]
      by_cases hoa : o ∈ a
      · refine List.mem_append_right _ ?_
        rcases List.eq_nil_or_concat a with z | ⟨a', b, rfl⟩
        · rw [z] at hoa; cases hoa
        · rw [List.concat_eq_append] at *
          obtain ⟨ua', hb⟩ := up_app ua
          have hb_o : b = o := by
            rcases List.mem_append.mp hoa with h1 | h1
            · have h2 := hb o h1
              rcases List.mem_append.mp (hs b (by simp)) with h3 | h3
              · have := sLt_to.tr _ _ _ h2 (ho b h3)
                rw [sLt_to.irr] at this; cases this
              · exact List.mem_singleton.mp h3
            · exact (List.mem_singleton.mp h1).symm
          subst hb_o
          refine List.mem_map.mpr ⟨a', ih l a' hl ul ua' fun x hx => ?_, rfl⟩
          rcases List.mem_append.mp (hs x (List.mem_append_left _ hx)) with h3 | h3
          · exact h3
          · have := hb x hx
            rw [List.mem_singleton.mp h3, sLt_to.irr] at this; cases this
      · refine List.mem_append_left _ (ih l a hl ul ua fun x hx => ?_)
        rcases List.mem_append.mp (hs x hx) with h3 | h3
        · exact h3
        · exact absurd (List.mem_singleton.mp h3 ▸ hx) hoa
theorem subsU_sub : ∀ (n : Nat) (ks a : Ks), ks.length = n → a ∈ subsU ks → a.Sublist ks := by
  intro n
  induction n with
  | zero =>
    intro ks a h ha
    have e := List.length_eq_zero_iff.mp h
    subst e
    rw [List.mem_singleton.mp ha]
    exact List.Sublist.refl _
  | succ n ih =>
    intro ks a h ha
    rcases List.eq_nil_or_concat ks with z | ⟨l, o, rfl⟩
    · rw [z] at h; cases h
    · rw [List.concat_eq_append] at h ha ⊢
      have hl : l.length = n := by rw [List.length_append] at h; exact Nat.succ.inj h
      rw [subsU_snoc] at ha
      rcases List.mem_append.mp ha with ha | ha
      · exact (ih l a hl ha).trans (List.sublist_append_left _ _)
      · obtain ⟨b, hb, rfl⟩ := List.mem_map.mp ha
        exact (ih l b hl hb).append (List.Sublist.refl _)
theorem sub_of {ks a : Ks} (h : a ∈ subsU ks) : a.Sublist ks := subsU_sub _ ks a rfl h
theorem of_sub {ks a : Ks} (u : Up sLt ks) (ua : Up sLt a) (hs : ∀ x ∈ a, x ∈ ks) : a ∈ subsU ks := mem_subsU _ ks a rfl u ua hs
theorem WKs.pow {ks : Ks} (W : WKs ks) : (subsU ks).length < 62 := by
  rw [subsU_len]
  have : 2 ^ ks.length ≤ 2 ^ 5 := Nat.pow_le_pow_right (by decide) W.few
  omega
theorem WKs.fewS {ks l : Ks} (W : WKs ks) (h : ∀ x ∈ l, x ∈ ks) : Few l := ⟨ks, by have := W.few; omega, h⟩
theorem WKs.fewT {ks : Ks} {L : Kss} (W : WKs ks) (h : ∀ l ∈ L, Up sLt l ∧ ∀ x ∈ l, x ∈ ks) : Few L := ⟨subsU ks, W.pow, fun l hl => of_sub W.up (h l hl).1 (h l hl).2⟩
theorem WKs.len {ks l : Ks} (W : WKs ks) (u : Up sLt l) (h : ∀ x ∈ l, x ∈ ks) : l.length ≤ 5 := Nat.le_trans (nodup_le l ks (u.nodup sLt_to) h) W.few
theorem us_ok {ks : Ks} {L : Kss} (h : InK ks L) : ∀ l ∈ L.map (us sLt), Up sLt l ∧ ∀ x ∈ l, x ∈ ks := fun l hl => by
  obtain ⟨a, ha, rfl⟩ := List.mem_map.mp hl
  exact ⟨us_up sLt_to a, fun x hx => h a ha x (mem_us.mp hx)⟩
theorem big_line : (16777216 : Nat) = sizeLine := by rw [sizeLine_eq]
end Vk

set_option Elab.async false
set_option linter.all false
set_option maxRecDepth 100000
set_option maxHeartbeats 4000000
/-! The plain part of the program: vaults (printed by p2.py). -/
namespace Vk
open PySem L2 StX
def A_keys_of (ds : List PyData) (d : PyData) : Prop := ∃ (ks : Ks) (x : PyData), ds = [.tuple [dT ks, x]] ∧ d = dT ks
def A_check_keys (ds : List PyData) (d : PyData) : Prop := ∃ (ks l : Ks) (x e : PyData), (∀ y ∈ l, y ∈ ks) ∧ (e = dL l ∨ e = dT l) ∧ ds = [.tuple [dT ks, x], e] ∧ d = .none
def A_check_same (ds : List PyData) (d : PyData) : Prop := ∃ (ks : Ks) (x y : PyData), Nms ks ∧ ds = [.tuple [dT ks, x], .tuple [dT ks, y]] ∧ d = .none
def A_least_vault (ds : List PyData) (d : PyData) : Prop := ∃ (ks : Ks) (L : Kss) (s : PyData), WKs ks ∧ InK ks L ∧ s.depth ≤ 2 ∧ tup s = dTT L ∧ ds = [dT ks, s] ∧ d = dV (leastV ks L)
def A_vault_of (ds : List PyData) (d : PyData) : Prop := ∃ (ks : Ks) (L : Kss), WKs ks ∧ InK ks L ∧ L.length ≤ 1000 ∧ (∀ l ∈ L, l.length ≤ 1000) ∧ ds = [dT ks, dTT L] ∧ d = dV (leastV ks L)
def A_opens (ds : List PyData) (d : PyData) : Prop := ∃ (v : Vt) (h : Ks), (∀ y ∈ h, y ∈ v.1) ∧ ds = [dV v, dT h] ∧ d = .bool (ho v.2 h)
def A_either (ds : List PyData) (d : PyData) : Prop := ∃ v o : Vt, o.1 = v.1 ∧ WKs v.1 ∧ InK v.1 v.2 ∧ InK v.1 o.2 ∧ v.2.length ≤ 1000 ∧ o.2.length ≤ 1000 ∧ ds = [dV v, dV o] ∧ d = dV (eithr v o)
def A_both (ds : List PyData) (d : PyData) : Prop := ∃ v o : Vt, o.1 = v.1 ∧ WKs v.1 ∧ InK v.1 v.2 ∧ InK v.1 o.2 ∧ v.2.length ≤ 1000 ∧ o.2.length ≤ 1000 ∧ (∀ l ∈ v.2 ++ o.2, l.length ≤ 1000) ∧ ds = [dV v, dV o] ∧ d = dV (bth v o)
section
variable {P : Program} {w : World} {K : PySem.W.Frag} {mg : Str → Option Value} {base : Heap} {T : Tb}
/-- pure_ok for a def that may end without return -/
theorem pure_nx {x q : Str} {st : Stmt} {f : Addr} {fd : FuncData} {N ps : List Str} {k : Nat} {A : List PyData → PyData → Prop} (F : FunD K x q (defArgs st) (defBody st) (defScope st) [] [] f fd) (S : FnScope N ps (defScope st))
    (len : ∀ ds d, A ds d → ds.length = ps.length)
    (hbody : ∀ (cdv : Value) (A' : Around) (outer : List Env) (s : Shared) (H B : Hp) (vs : List V) (ds : List PyData) (d : PyData) (E : XK), Room k (A'.deeper (PyProof.Rows.envOfC q (defScope st) s.heap.objs.size f cdv)) → Fz B H → TOk T H → DpAll K B vs ds → A ds d →
      ∃ t : TS, PSs (cxOf CX0 P w K mg base N q (defScope st) f cdv A' outer s H E).nox (defBody st) t ∧ ∀ Q : VK, (∀ v B' H', St T B H B' H' → Dp K B' v d → Q v H') → t { nx := fun _ H' => Q .non H', rt := Q } (start N vs) H) :
    FnOk P w K mg base CX0 (k + 1) f fd ps (spD T K A) := by
  refine fn_ok F S (fun vs H Q E h => ?_) (fun cdv A' outer s H vs Q E hr h => ?_)
  · obtain ⟨B, ds, d, _, _, r, hA, _⟩ := h
    rw [r.length]; exact len ds d hA
  · obtain ⟨B, ds, d, f1, tk, r, hA, q⟩ := h
    obtain ⟨t, h1, h2⟩ := hbody cdv A' outer s H B vs ds d E hr f1 tk r hA
    exact ⟨t, h1, h2 _ q⟩
theorem sd_drop {D : Ends} {σ : L2.St} {B H : Hp} {te : TE} {d : PyData} (f : Fz B H) (tk : TOk T H) (h : ED T K te σ B d) (k : ∀ B' H', St T B H B' H' → D.nx σ H') : tDrop te D σ H := h H f tk _ fun v B' H' s _ => k B' H' s
theorem ok_keys_of (c : Code K mg) (G_tupled : FnOk P w K mg base CX0 4 c.tupled.f c.tupled.fd ["value"] (spD T K (A_tup 3))) : FnOk P w K mg base CX0 5 c.keys_of.f c.keys_of.fd ["vault"] (spD T K A_keys_of) := by
  refine pure_ok c.keys_of.F sc_keys_of (fun ds d h => ?_) (fun cdv A' outer s H B vs ds d E hr f tk r hA => ?_)
  · obtain ⟨_, _, rfl, _⟩ := h; rfl
  · obtain ⟨ks, x, rfl, rfl⟩ := hA
    obtain ⟨v, rfl, rv⟩ := dpAll1 r
    refine ⟨_, (pss_one (ps_ret (pe_call G_tupled (hr.mono (by decide)) (by rfl) c.tupled.g c.tupled.F.kp c.tupled.b .nil pass0 (pa_cons (pe_ix (kIxT (K := K) rfl) (pv 0) pe_int (fun _ _ => rfl)) pa_nil)))), fun D q => ?_⟩
    exact sd_ret f tk (ed_call (eda_cons (ed_ixT (d := dT ks) (ed_var rfl rv) (ed_int 0) rfl) eda_nil) ⟨dT ks, by rw [dep_dT]; decide, rfl, (tup_dT ks).symm⟩) q
theorem ok_check_keys (c : Code K mg) : FnOk P w K mg base CX0 1 c.check_keys.f c.check_keys.fd ["vault", "names"] (spD T K A_check_keys) := by
  refine pure_nx c.check_keys.F sc_check_keys (fun ds d h => ?_) (fun cdv A' outer s H B vs ds d E hr f tk r hA => ?_)
  · obtain ⟨_, _, _, _, _, _, rfl, _⟩ := h; rfl
  · obtain ⟨ks, l, x, e, hin, he, rfl, rfl⟩ := hA
    obtain ⟨v, u, rfl, r1, r2⟩ := DpAll.two r
    rcases he with rfl | rfl
    · -- a list
      refine ⟨_, (pss_one (ps_for PassesOwn.never rfl (kPiL (K := K) rfl (kSz (K := K) rfl (pv 1))) (pg_name (i := 2) sc_check_keys.nd rfl (Or.inl rfl)) (pss_one (ps_if (pt_cmpR (kNin (K := K) rfl) (pv 2) (pe_ix (kIxT (K := K) rfl) (pv 0) pe_int (fun _ _ => rfl)) (by rfl)) (pss_one ps_never) pss_nil)))), fun Q q => ?_⟩
      refine sd_forL (enc := PyData.str) (xs := l) f tk (ed_var rfl r2) fun B1 H1 s1 => ⟨fun i σ' H' => ∃ o2, σ' = [some v, some u, o2] ∧ St T B1 H1 B1 H', ⟨_, rfl, St.refl s1.fz⟩, (fun i σ' H' ⟨_, _, s⟩ => s.fz), ?_, ?_⟩
      · rintro i x1 v1 σ' H' hx rx ⟨o2, rfl, s⟩
        refine sd_if s.fz (s.ok (s1.ok tk)) (et_test ((ed_in (neg := true) (ss := ks) (ed_var rfl rx) (ed_ixT (d := dT ks) (ed_var rfl (Dp.sub s1.sub _ _ r1)) (ed_int 0) rfl) (.inr rfl)).is (by rw [if_pos rfl, decide_eq_true (hin x1 (List.mem_of_getElem? hx))]))) (fun z => by cases z) (fun _ H2 s2 => ⟨_, rfl, s.trans s2⟩)
      · rintro σ' H' ⟨o2, rfl, s⟩
        exact q .non B1 H' (s1.trans s) .non
    · -- a tuple
      refine ⟨_, (pss_one (ps_for PassesOwn.never rfl (kPiT (K := K) rfl (kSz (K := K) rfl (pv 1))) (pg_name (i := 2) sc_check_keys.nd rfl (Or.inl rfl)) (pss_one (ps_if (pt_cmpR (kNin (K := K) rfl) (pv 2) (pe_ix (kIxT (K := K) rfl) (pv 0) pe_int (fun _ _ => rfl)) (by rfl)) (pss_one ps_never) pss_nil)))), fun Q q => ?_⟩
      refine sd_forT (enc := PyData.str) (xs := l) f tk (ed_var rfl r2) fun B1 H1 s1 => ⟨fun i σ' H' => ∃ o2, σ' = [some v, some u, o2] ∧ St T B1 H1 B1 H', ⟨_, rfl, St.refl s1.fz⟩, (fun i σ' H' ⟨_, _, s⟩ => s.fz), ?_, ?_⟩
      · rintro i x1 v1 σ' H' hx rx ⟨o2, rfl, s⟩
        refine sd_if s.fz (s.ok (s1.ok tk)) (et_test ((ed_in (neg := true) (ss := ks) (ed_var rfl rx) (ed_ixT (d := dT ks) (ed_var rfl (Dp.sub s1.sub _ _ r1)) (ed_int 0) rfl) (.inr rfl)).is (by rw [if_pos rfl, decide_eq_true (hin x1 (List.mem_of_getElem? hx))]))) (fun z => by cases z) (fun _ H2 s2 => ⟨_, rfl, s.trans s2⟩)
      · rintro σ' H' ⟨o2, rfl, s⟩
        exact q .non B1 H' (s1.trans s) .non
theorem ok_check_same (c : Code K mg) (G_tupled : FnOk P w K mg base CX0 4 c.tupled.f c.tupled.fd ["value"] (spD T K (A_tup 3))) : FnOk P w K mg base CX0 5 c.check_same_keys.f c.check_same_keys.fd ["vault", "other"] (spD T K A_check_same) := by
  refine pure_nx c.check_same_keys.F sc_check_same_keys (fun ds d h => ?_) (fun cdv A' outer s H B vs ds d E hr f tk r hA => ?_)
  · obtain ⟨_, _, _, _, rfl, _⟩ := h; rfl
  · obtain ⟨ks, x, y, hn, rfl, rfl⟩ := hA
    obtain ⟨v, u, rfl, r1, r2⟩ := DpAll.two r
    have hu := hr.u64
    refine ⟨_, (pss_one (ps_if (pt_cmpR (kNeD (K := K) rfl hu) (pe_call G_tupled (hr.mono (by decide)) (by rfl) c.tupled.g c.tupled.F.kp c.tupled.b .nil pass0 (pa_cons (pe_ix (kIxT (K := K) rfl) (pv 0) pe_int (fun _ _ => rfl)) pa_nil)) (pe_call G_tupled (hr.mono (by decide)) (by rfl) c.tupled.g c.tupled.F.kp c.tupled.b .nil pass0 (pa_cons (pe_ix (kIxT (K := K) rfl) (pv 1) pe_int (fun _ _ => rfl)) pa_nil)) (nomark _)) (pss_one ps_never) pss_nil)), fun Q q => ?_⟩
    have key : ∀ (i : Nat) (v : V) (x : PyData), (start ["vault", "other"] [v, u])[i]? = (start ["vault", "other"] [v, u])[i]? := fun _ _ _ => rfl
    refine sd_if f tk (et_test ((ed_neD (ed_call (d := dT ks) (eda_cons (ed_ixT (d := dT ks) (ed_var rfl r1) (ed_int 0) rfl) eda_nil) ⟨dT ks, by rw [dep_dT]; decide, rfl, (tup_dT ks).symm⟩)
      (ed_call (d := dT ks) (eda_cons (ed_ixT (d := dT ks) (ed_var rfl r2) (ed_int 0) rfl) eda_nil) ⟨dT ks, by rw [dep_dT]; decide, rfl, (tup_dT ks).symm⟩) (shaped_dT hn) (shaped_dT hn)).is (by rw [eqv_dT, decide_eq_true rfl]))) (fun z => by cases z) (fun _ H' s => q .non _ H' s .non)
theorem ok_least_vault (c : Code K mg) (G_tupled : FnOk P w K mg base CX0 4 c.tupled.f c.tupled.fd ["value"] (spD T K (A_tup 3))) (G_least_sets : FnOk P w K mg base CX0 3 c.least_sets.f c.least_sets.fd ["sets"] (spD T K A_least)) (G_set_of : FnOk P w K mg base CX0 1 c.set_of.f c.set_of.fd ["some"] (spD T K A_set_ofS)) : FnOk P w K mg base CX0 5 c.least_vault.f c.least_vault.fd ["keys", "sets"] (spD T K A_least_vault) := by
  refine pure_ok c.least_vault.F sc_least_vault (fun ds d h => ?_) (fun cdv A' outer s H B vs ds d E hr f tk r hA => ?_)
  · obtain ⟨_, _, _, _, _, _, _, rfl, _⟩ := h; rfl
  · obtain ⟨ks, L, s0, W, hin, hdp, hs, rfl, rfl⟩ := hA
    obtain ⟨v, u, rfl, r1, r2⟩ := DpAll.two r
    have ok := us_ok hin
    refine ⟨_, (pss_one (ps_ret (pe_tup (pa_cons (pe_call G_tupled (hr.mono (by decide)) (by rfl) c.tupled.g c.tupled.F.kp c.tupled.b .nil pass0 (pa_cons (pv 0) pa_nil)) (pa_cons (pe_call G_least_sets (hr.mono (by decide)) (by rfl) c.least_sets.g c.least_sets.F.kp c.least_sets.b .nil pass0 (pa_cons (pe_lc (own := [("own", 2)]) (g := gName 2) (tt := tYes) rfl sc_least_vault.nd (kPiT (K := K) rfl (kSz (K := K) rfl (pe_call G_tupled (hr.mono (by decide)) (by rfl) c.tupled.g c.tupled.F.kp c.tupled.b .nil pass0 (pa_cons (pv 1) pa_nil)))) (blkOk_by (N := ["keys", "sets", "own"]) (sc := defScope s_least_vault) (by decide +kernel)) (fun _ _ _ _ _ => pg_name (i := 2) sc_least_vault.nd rfl (Or.inl rfl)) (fun _ _ _ _ _ => pts_nil) (fun _ _ _ _ _ => (pe_call G_set_of (hr.mono (by decide)) (by rfl) c.set_of.g c.set_of.F.kp c.set_of.b .nil pass0 (pa_cons (pv 2) pa_nil)))) pa_nil)) pa_nil))))), fun D q => ?_⟩
    refine sd_ret f tk (ed_tup (eda_cons (ed_call (d := dT ks) (eda_cons (ed_var rfl r1) eda_nil) ⟨dT ks, by rw [dep_dT]; decide, rfl, (tup_dT ks).symm⟩) (eda_cons (ed_call (d := dTT (least (L.map (us sLt)))) (eda_cons
      ((ed_mapT (enc := dT) (xs := L) (fun l => dT (us sLt l)) ((ed_call (eda_cons (ed_var rfl r2) eda_nil) ⟨s0, Nat.le_succ_of_le hdp, rfl, rfl⟩).is hs) (fun _ => rfl) fun l hl v1 B1 sb rv1 =>
        ed_call (eda_cons (ed_var rfl rv1) eda_nil) ⟨l, W.fewS (hin l hl), ⟨dT l, .inr rfl, rfl⟩, rfl⟩).is (e := dLT (L.map (us sLt))) (by unfold dLT; rw [List.map_map]; rfl)) eda_nil)
      ⟨L.map (us sLt), W.fewT ok, fun k hk => ?_, rfl, rfl⟩) eda_nil)) (by show 2 ≤ sizeLine; rw [← big_line]; decide)) q
    have := W.len (ok k hk).1 (ok k hk).2
    rw [← big_line]; omega
theorem flat_len {α β : Type} (f : α → List β) (n : Nat) : ∀ l : List α, (∀ x ∈ l, (f x).length ≤ n) → (l.flatMap f).length ≤ l.length * n
  | [], _ => Nat.zero_le _
  | x :: l, h => by
    rw [List.flatMap_cons, List.length_append, List.length_cons, Nat.succ_mul]
    have h1 := h x List.mem_cons_self
    have h2 := flat_len f n l fun y hy => h y (List.mem_cons_of_mem _ hy)
    omega
theorem ok_vault_of (c : Code K mg) (G_check_keys : FnOk P w K mg base CX0 1 c.check_keys.f c.check_keys.fd ["vault", "names"] (spD T K A_check_keys)) (G_least_vault : FnOk P w K mg base CX0 5 c.least_vault.f c.least_vault.fd ["keys", "sets"] (spD T K A_least_vault)) : FnOk P w K mg base CX0 6 c.vault_of.f c.vault_of.fd ["keys", "sets"] (spD T K A_vault_of) := by
  refine pure_ok c.vault_of.F sc_vault_of (fun ds d h => ?_) (fun cdv A' outer s H B vs ds d E hr f tk r hA => ?_)
  · obtain ⟨_, _, _, _, _, _, rfl, _⟩ := h; rfl
  · obtain ⟨ks, L, W, hin, hl, hl2, rfl, rfl⟩ := hA
    obtain ⟨v, u, rfl, r1, r2⟩ := DpAll.two r
    refine ⟨_, (pss_cons (ps_expr (pe_call G_check_keys (hr.mono (by decide)) (by rfl) c.check_keys.g c.check_keys.F.kp c.check_keys.b .nil pass0 (pa_cons (pe_tup (pa_cons (pv 0) (pa_cons (pe_tup pa_nil) pa_nil))) (pa_cons (pe_lc2 (own := [("own", 2), ("name", 3)]) (vs1 := [3]) (g := gName 2) (g1 := gName 3) (tt := tYes) (tt1 := tYes) rfl sc_vault_of.nd (kPiT (K := K) rfl (kSz (K := K) rfl (pv 1))) (blkOk_by (N := ["keys", "sets", "own", "name"]) (sc := defScope s_vault_of) (by decide +kernel)) (by decide) (fun _ _ _ _ _ => pg_name (i := 2) sc_vault_of.nd rfl (Or.inl rfl)) (fun _ _ _ _ _ => pts_nil) (fun _ _ _ _ _ => (kPiT (K := K) rfl (kSz (K := K) rfl (pv 2)))) (fun _ _ _ _ _ => pg_name (i := 3) sc_vault_of.nd rfl (Or.inl rfl)) (fun _ _ _ _ _ => pts_nil) (fun _ _ _ _ _ => (pv 3))) pa_nil)))) (pss_one (ps_ret (pe_call G_least_vault (hr.mono (by decide)) (by rfl) c.least_vault.g c.least_vault.F.kp c.least_vault.b .nil pass0 (pa_cons (pv 0) (pa_cons (pv 1) pa_nil)))))), fun D q => ?_⟩
    have hz : (L.flatMap fun l => l.map PyData.str).length ≤ sizeLine := by
      refine Nat.le_trans (flat_len _ 1000 L fun l h => by rw [List.length_map]; exact hl2 l h) ?_
      rw [← big_line]; omega
    refine sd_drop f tk (ed_call (d := .none) (eda_cons (ed_tup (eda_cons (ed_var rfl r1) (eda_cons (ed_tup eda_nil (Nat.zero_le _)) eda_nil)) (by show 2 ≤ sizeLine; rw [← big_line]; decide)) (eda_cons
      (ed_lc2 (enc := dT) (enc2 := PyData.str) (xs := L) (fun l => l) (fun _ x => .str x) (ed_var rfl r2) hz (fun _ => rfl) (fun _ _ => rfl) (fun l _ v1 B1 sb rv => ed_var rfl rv) (fun l _ v1 y _ u1 B1 sb rv ru => ed_var rfl ru)) eda_nil))
      ⟨ks, L.flatMap fun l => l, .tuple [], dL (L.flatMap fun l => l), fun y hy => ?_, .inl rfl, ?_, rfl⟩) fun B1 H1 s1 => ?_
    · obtain ⟨l, hl, hy⟩ := List.mem_flatMap.mp hy
      exact hin l hl y hy
    · unfold dL
      rw [List.map_flatMap]
    · exact sd_ret s1.fz (s1.ok tk) (ed_call (eda_cons (ed_var rfl (Dp.sub s1.sub _ _ r1)) (eda_cons (ed_var rfl (Dp.sub s1.sub _ _ r2)) eda_nil)) ⟨ks, L, dTT L, W, hin, dep_dTT L, tup_dTT L, rfl, rfl⟩) fun v' B' H' s' r' => q v' B' H' (s1.trans s') r'
theorem ok_opens (c : Code K mg) (G_check_keys : FnOk P w K mg base CX0 1 c.check_keys.f c.check_keys.fd ["vault", "names"] (spD T K A_check_keys)) (G_has_opener : FnOk P w K mg base CX0 2 c.has_opener.f c.has_opener.fd ["openers", "held"] (spD T K A_has_opener)) : FnOk P w K mg base CX0 3 c.opens.f c.opens.fd ["vault", "held"] (spD T K A_opens) := by
  refine pure_ok c.opens.F sc_opens (fun ds d h => ?_) (fun cdv A' outer s H B vs ds d E hr f tk r hA => ?_)
  · obtain ⟨_, _, _, rfl, _⟩ := h; rfl
  · obtain ⟨vt, h, hin, rfl, rfl⟩ := hA
    obtain ⟨v, u, rfl, r1, r2⟩ := DpAll.two r
    refine ⟨_, (pss_cons (ps_expr (pe_call G_check_keys (hr.mono (by decide)) (by rfl) c.check_keys.g c.check_keys.F.kp c.check_keys.b .nil pass0 (pa_cons (pv 0) (pa_cons (pv 1) pa_nil)))) (pss_one (ps_ret (pe_call G_has_opener (hr.mono (by decide)) (by rfl) c.has_opener.g c.has_opener.F.kp c.has_opener.b .nil pass0 (pa_cons (pe_ix (kIxT (K := K) rfl) (pv 0) pe_int (fun _ _ => rfl)) (pa_cons (pv 1) pa_nil)))))), fun D q => ?_⟩
    refine sd_drop f tk (ed_call (d := .none) (eda_cons (ed_var rfl r1) (eda_cons (ed_var rfl r2) eda_nil)) ⟨vt.1, h, dTT vt.2, dT h, hin, .inr rfl, rfl, rfl⟩) fun B1 H1 s1 => ?_
    exact sd_ret s1.fz (s1.ok tk) (ed_call (eda_cons (ed_ixT (d := dTT vt.2) (ed_var rfl (Dp.sub s1.sub _ _ r1)) (ed_int 1) rfl) (eda_cons (ed_var rfl (Dp.sub s1.sub _ _ r2)) eda_nil)) ⟨vt.2, h, rfl, rfl⟩) fun v' B' H' s' r' => q v' B' H' (s1.trans s') r'
theorem ok_either (c : Code K mg) (G_check_same_keys : FnOk P w K mg base CX0 5 c.check_same_keys.f c.check_same_keys.fd ["vault", "other"] (spD T K A_check_same)) (G_least_vault : FnOk P w K mg base CX0 5 c.least_vault.f c.least_vault.fd ["keys", "sets"] (spD T K A_least_vault)) : FnOk P w K mg base CX0 6 c.either.f c.either.fd ["vault", "other"] (spD T K A_either) := by
  refine pure_ok c.either.F sc_either (fun ds d h => ?_) (fun cdv A' outer s H B vs ds d E hr f tk r hA => ?_)
  · obtain ⟨_, _, _, _, _, _, _, _, rfl, _⟩ := h; rfl
  · obtain ⟨vt, ot, hk, W, hv, ho, l1, l2, rfl, rfl⟩ := hA
    obtain ⟨v, u, rfl, r1, r2⟩ := DpAll.two r
    refine ⟨_, (pss_cons (ps_expr (pe_call G_check_same_keys (hr.mono (by decide)) (by rfl) c.check_same_keys.g c.check_same_keys.F.kp c.check_same_keys.b .nil pass0 (pa_cons (pv 0) (pa_cons (pv 1) pa_nil)))) (pss_one (ps_ret (pe_call G_least_vault (hr.mono (by decide)) (by rfl) c.least_vault.g c.least_vault.F.kp c.least_vault.b .nil pass0 (pa_cons (pe_ix (kIxT (K := K) rfl) (pv 0) pe_int (fun _ _ => rfl)) (pa_cons (pe_lst (kStar (K := K) rfl (pe_ix (kIxT (K := K) rfl) (pv 0) pe_int (fun _ _ => rfl)) (kStar (K := K) rfl (pe_ix (kIxT (K := K) rfl) (pv 1) pe_int (fun _ _ => rfl)) pa_nil))) pa_nil)))))), fun D q => ?_⟩
    refine sd_drop f tk (ed_call (d := .none) (eda_cons (ed_var rfl r1) (eda_cons (ed_var rfl r2) eda_nil)) ⟨vt.1, dTT vt.2, dTT ot.2, W.nm, by rw [← hk]; unfold dV; rw [hk], rfl⟩) fun B1 H1 s1 => ?_
    have r1' := Dp.sub s1.sub _ _ r1
    have r2' := Dp.sub s1.sub _ _ r2
    refine sd_ret s1.fz (s1.ok tk) (ed_call (eda_cons (ed_ixT (d := dT vt.1) (ed_var rfl r1') (ed_int 0) rfl) (eda_cons ((ed_lst (eda_star (ed_ixT (d := dTT vt.2) (ed_var rfl r1') (ed_int 1) rfl) (.inr rfl) (eda_star (ed_ixT (d := dTT ot.2) (ed_var rfl r2') (ed_int 1) rfl) (.inr rfl) eda_nil)) ?_).is (e := dLT (vt.2 ++ ot.2)) ?_) eda_nil))
      ⟨vt.1, vt.2 ++ ot.2, dLT (vt.2 ++ ot.2), W, fun l hl => (List.mem_append.mp hl).elim (hv l) (ho l), dep_dLT _, tup_dLT _, rfl, rfl⟩) fun v' B' H' s' r' => q v' B' H' (s1.trans s') r'
    · rw [List.append_nil, List.length_append, List.length_map, List.length_map, ← big_line]; omega
    · unfold dLT; rw [List.append_nil, List.map_append]
theorem ok_both (c : Code K mg) (G_check_same_keys : FnOk P w K mg base CX0 5 c.check_same_keys.f c.check_same_keys.fd ["vault", "other"] (spD T K A_check_same)) (G_least_vault : FnOk P w K mg base CX0 5 c.least_vault.f c.least_vault.fd ["keys", "sets"] (spD T K A_least_vault)) : FnOk P w K mg base CX0 6 c.both.f c.both.fd ["vault", "other"] (spD T K A_both) := by
  refine pure_ok c.both.F sc_both (fun ds d h => ?_) (fun cdv A' outer s H B vs ds d E hr f tk r hA => ?_)
  · obtain ⟨_, _, _, _, _, _, _, _, _, rfl, _⟩ := h; rfl
  · obtain ⟨vt, ot, hk, W, hv, ho, l1, l2, l3, rfl, rfl⟩ := hA
    obtain ⟨v, u, rfl, r1, r2⟩ := DpAll.two r
    refine ⟨_, (pss_cons (ps_expr (pe_call G_check_same_keys (hr.mono (by decide)) (by rfl) c.check_same_keys.g c.check_same_keys.F.kp c.check_same_keys.b .nil pass0 (pa_cons (pv 0) (pa_cons (pv 1) pa_nil)))) (pss_one (ps_ret (pe_call G_least_vault (hr.mono (by decide)) (by rfl) c.least_vault.g c.least_vault.F.kp c.least_vault.b .nil pass0 (pa_cons (pe_ix (kIxT (K := K) rfl) (pv 0) pe_int (fun _ _ => rfl)) (pa_cons (pe_lc2 (own := [("one", 2), ("far", 3)]) (vs1 := [3]) (g := gName 2) (g1 := gName 3) (tt := tYes) (tt1 := tYes) rfl sc_both.nd (kPiT (K := K) rfl (kSz (K := K) rfl (pe_ix (kIxT (K := K) rfl) (pv 0) pe_int (fun _ _ => rfl)))) (blkOk_by (N := ["vault", "other", "one", "far"]) (sc := defScope s_both) (by decide +kernel)) (by decide) (fun _ _ _ _ _ => pg_name (i := 2) sc_both.nd rfl (Or.inl rfl)) (fun _ _ _ _ _ => pts_nil) (fun _ _ _ _ _ => (kPiT (K := K) rfl (kSz (K := K) rfl (pe_ix (kIxT (K := K) rfl) (pv 1) pe_int (fun _ _ => rfl))))) (fun _ _ _ _ _ => pg_name (i := 3) sc_both.nd rfl (Or.inl rfl)) (fun _ _ _ _ _ => pts_nil) (fun _ _ _ _ _ => (pe_lst (kStar (K := K) rfl (pv 2) (kStar (K := K) rfl (pv 3) pa_nil))))) pa_nil)))))), fun D q => ?_⟩
    refine sd_drop f tk (ed_call (d := .none) (eda_cons (ed_var rfl r1) (eda_cons (ed_var rfl r2) eda_nil)) ⟨vt.1, dTT vt.2, dTT ot.2, W.nm, by rw [← hk]; unfold dV; rw [hk], rfl⟩) fun B1 H1 s1 => ?_
    have r1' := Dp.sub s1.sub _ _ r1
    have r2' := Dp.sub s1.sub _ _ r2
    have hz : (vt.2.flatMap fun a => ot.2.map fun b => dL (a ++ b)).length ≤ sizeLine := by
      refine Nat.le_trans (flat_len _ 1000 _ fun l h => by rw [List.length_map]; exact l2) ?_
      rw [← big_line]; omega
    refine sd_ret s1.fz (s1.ok tk) (ed_call (eda_cons (ed_ixT (d := dT vt.1) (ed_var rfl r1') (ed_int 0) rfl) (eda_cons ((ed_lc2 (enc := dT) (enc2 := dT) (xs := vt.2) (fun _ => ot.2) (fun a b => dL (a ++ b)) (ed_ixT (d := dTT vt.2) (ed_var rfl r1') (ed_int 1) rfl) hz (fun _ => rfl) (fun _ _ => rfl)
      (fun a _ v1 B3 sb rv => ed_ixT (d := dTT ot.2) (ed_var rfl (Dp.sub sb _ _ r2')) (ed_int 1) rfl) (fun a ha v1 y hy u1 B3 sb rv ru => (ed_lst (eda_star (ed_var rfl rv) (.inr rfl) (eda_star (ed_var rfl ru) (.inr rfl) eda_nil)) ?_).is ?_)).is (e := .list ((vt.2.flatMap fun a => ot.2.map fun b => a ++ b).map dL)) ?_) eda_nil))
      ⟨vt.1, vt.2.flatMap fun a => ot.2.map fun b => a ++ b, _, W, fun l hl => ?_, dep_dLL _, tup_dLL _, rfl, rfl⟩) fun v' B' H' s' r' => q v' B' H' (s1.trans s') r'
    · have h1 := l3 a (List.mem_append_left _ ha)
      have h2 := l3 y (List.mem_append_right _ hy)
      rw [List.append_nil, List.length_append, List.length_map, List.length_map, ← big_line]; omega
    · unfold dL; rw [List.append_nil, List.map_append]
    · rw [List.map_flatMap]
      congr 2
      funext a
      rw [List.map_map]; rfl
    · obtain ⟨a, ha, hl⟩ := List.mem_flatMap.mp hl
      obtain ⟨b, hb, rfl⟩ := List.mem_map.mp hl
      intro x hx
      exact (List.mem_append.mp hx).elim (hv a ha x) (ho b hb x)
end
end Vk

set_option Elab.async false
set_option linter.all false
set_option maxRecDepth 100000
set_option maxHeartbeats 4000000
/-! The plain part of the program: changes (printed by p4.py). -/
namespace Vk
open PySem L2 StX
def newO (v o : Vt) : Kss := o.2.filter fun a => !ho v.2 a
def handE (ks h : Ks) (k p : Str) : Ks := (ks.zip h).map fun z => if z.1 = k then p else z.2
def kwth (ks h g : Ks) : Ks := ((ks.zip h).filter fun z => decide (z.2 ∈ g)).map (·.1)
def gop (v : Vt) (h g : Ks) : Bool := ho v.2 (kwth v.1 h g)
def gthat (v : Vt) (h l : Ks) : Kss := least ((subs (us sLt (h ++ l))).filter fun g => gop v l g && !gop v h g)
def A_openers_of (ds : List PyData) (d : PyData) : Prop := ∃ v : Vt, ds = [dV v] ∧ d = dTT v.2
def A_new_openers (ds : List PyData) (d : PyData) : Prop := ∃ v o : Vt, o.1 = v.1 ∧ Nms v.1 ∧ ds = [dV v, dV o] ∧ d = dTT (newO v o)
def A_lost_openers (ds : List PyData) (d : PyData) : Prop := ∃ v o : Vt, o.1 = v.1 ∧ Nms v.1 ∧ ds = [dV v, dV o] ∧ d = dTT (newO o v)
def A_is_milder (ds : List PyData) (d : PyData) : Prop := ∃ v o : Vt, o.1 = v.1 ∧ Nms v.1 ∧ ds = [dV v, dV o] ∧ d = .bool (decide ((newO o v).length = 0))
def A_handed (ds : List PyData) (d : PyData) : Prop := ∃ (v : Vt) (h : Ks) (k p : Str), k ∈ v.1 ∧ ds = [dV v, dT h, dS k, dS p] ∧ d = dT (handE v.1 h k p)
def A_keys_with (ds : List PyData) (d : PyData) : Prop := ∃ (v : Vt) (h g : Ks), ds = [dV v, dT h, dT g] ∧ d = dT (kwth v.1 h g)
def A_group_opens (ds : List PyData) (d : PyData) : Prop := ∃ (v : Vt) (h g : Ks), ds = [dV v, dT h, dT g] ∧ d = .bool (gop v h g)
def A_groups_that (ds : List PyData) (d : PyData) : Prop := ∃ (v : Vt) (h l : Ks), h.length ≤ 1000 ∧ l.length ≤ 1000 ∧ (us sLt (h ++ l)).length ≤ 5 ∧ ds = [dV v, dT h, dT l] ∧ d = dTT (gthat v h l)
def A_lost_groups (ds : List PyData) (d : PyData) : Prop := ∃ (v : Vt) (h l : Ks), h.length ≤ 1000 ∧ l.length ≤ 1000 ∧ (us sLt (l ++ h)).length ≤ 5 ∧ ds = [dV v, dT h, dT l] ∧ d = dTT (gthat v l h)
def A_are_met (ds : List PyData) (d : PyData) : Prop := ∃ (v : Vt) (h g : Ks), ds = [dV v, dT h, dTT [g], .tuple []] ∧ d = .bool (gop v h g)
theorem DpAll.three {K : PySem.W.Frag} {B : Hp} {vs : List V} {d e g : PyData} (h : DpAll K B vs [d, e, g]) : ∃ v w u, vs = [v, w, u] ∧ Dp K B v d ∧ Dp K B w e ∧ Dp K B u g := by
  cases h with
  | cons h t =>
    obtain ⟨w, u, rfl, h1, h2⟩ := DpAll.two t
    exact ⟨_, w, u, rfl, h, h1, h2⟩
theorem DpAll.four {K : PySem.W.Frag} {B : Hp} {vs : List V} {d e g i : PyData} (h : DpAll K B vs [d, e, g, i]) : ∃ v w u z, vs = [v, w, u, z] ∧ Dp K B v d ∧ Dp K B w e ∧ Dp K B u g ∧ Dp K B z i := by
  cases h with
  | cons h t =>
    obtain ⟨w, u, z, rfl, h1, h2, h3⟩ := DpAll.three t
    exact ⟨_, w, u, z, rfl, h, h1, h2, h3⟩
section
variable {T : Tb} {K : PySem.W.Frag} {σ : L2.St} {B : Hp} {ta tb te : TE}
theorem ed_eqS {x y : Str} (h : ED T K ta σ B (.str x)) (h2 : ED T K tb σ B (.str y)) : ED T K (tOp rEq ta tb) σ B (.bool (decide (x = y))) := ed_op h h2 fun B1 H1 v w Q f r1 r2 q => by
  cases r1
  cases r2
  refine ⟨rfl, ?_⟩
  have e : decide (V.str x = V.str y) = decide (x = y) := by simp
  rw [e]
  exact q _ (.bl _)
theorem ed_neS {x y : Str} (h : ED T K ta σ B (.str x)) (h2 : ED T K tb σ B (.str y)) : ED T K (tOp rNe ta tb) σ B (.bool (!decide (x = y))) := ed_op h h2 fun B1 H1 v w Q f r1 r2 q => by
  cases r1
  cases r2
  refine ⟨rfl, ?_⟩
  have e : decide (V.str x = V.str y) = decide (x = y) := by simp
  rw [e]
  exact q _ (.bl _)
theorem ed_eqI {x y : Int} (h : ED T K ta σ B (.int x)) (h2 : ED T K tb σ B (.int y)) : ED T K (tOp rEq ta tb) σ B (.bool (decide (x = y))) := ed_op h h2 fun B1 H1 v w Q f r1 r2 q => by
  cases r1
  cases r2
  refine ⟨rfl, ?_⟩
  have e : decide (V.int x = V.int y) = decide (x = y) := by simp
  rw [e]
  exact q _ (.bl _)
theorem len1 : (1 : Nat) ≤ sizeLine := by rw [← big_line]; decide
theorem len2 : (2 : Nat) ≤ sizeLine := by rw [← big_line]; decide
end
section
variable {P : Program} {w : World} {K : PySem.W.Frag} {mg : Str → Option Value} {base : Heap} {T : Tb}
theorem ok_openers_of (c : Code K mg) (G_tupled : FnOk P w K mg base CX0 4 c.tupled.f c.tupled.fd ["value"] (spD T K (A_tup 3))) : FnOk P w K mg base CX0 5 c.openers_of.f c.openers_of.fd ["vault"] (spD T K A_openers_of) := by
  refine pure_ok c.openers_of.F sc_openers_of (fun ds d h => ?_) (fun cdv A' outer s H B vs ds d E hr f tk r hA => ?_)
  · obtain ⟨_, rfl, _⟩ := h; rfl
  · obtain ⟨vt, rfl, rfl⟩ := hA
    obtain ⟨v, rfl, rv⟩ := dpAll1 r
    refine ⟨_, (pss_one (ps_ret (pe_ix (kIxT (K := K) rfl) (pe_call G_tupled (hr.mono (by decide)) (by rfl) c.tupled.g c.tupled.F.kp c.tupled.b .nil pass0 (pa_cons (pv 0) pa_nil)) pe_int (fun _ _ => rfl)))), fun D q => ?_⟩
    exact sd_ret f tk (ed_ixT (d := dTT vt.2) (ed_call (d := dV vt) (eda_cons (ed_var rfl rv) eda_nil) ⟨dV vt, dep_dV _, rfl, (tup_dV _).symm⟩) (ed_int 1) rfl) q
theorem ok_new_openers (c : Code K mg) (G_check_same_keys : FnOk P w K mg base CX0 5 c.check_same_keys.f c.check_same_keys.fd ["vault", "other"] (spD T K A_check_same)) (G_openers_of : FnOk P w K mg base CX0 5 c.openers_of.f c.openers_of.fd ["vault"] (spD T K A_openers_of)) (G_has_opener : FnOk P w K mg base CX0 2 c.has_opener.f c.has_opener.fd ["openers", "held"] (spD T K A_has_opener)) : FnOk P w K mg base CX0 6 c.new_openers.f c.new_openers.fd ["vault", "other"] (spD T K A_new_openers) := by
  refine pure_ok c.new_openers.F sc_new_openers (fun ds d h => ?_) (fun cdv A' outer s H B vs ds d E hr f tk r hA => ?_)
  · obtain ⟨_, _, _, _, rfl, _⟩ := h; rfl
  · obtain ⟨vt, ot, hk, hn, rfl, rfl⟩ := hA
    obtain ⟨v, u, rfl, r1, r2⟩ := DpAll.two r
    refine ⟨_, (pss_cons (ps_expr (pe_call G_check_same_keys (hr.mono (by decide)) (by rfl) c.check_same_keys.g c.check_same_keys.F.kp c.check_same_keys.b .nil pass0 (pa_cons (pv 0) (pa_cons (pv 1) pa_nil)))) (pss_one (ps_ret (pe_callTy (kTuple (K := K) rfl) (by rfl) c.m_tuple (by decide +kernel) (pa_cons (pe_lc (own := [("own", 2)]) (g := gName 2) rfl sc_new_openers.nd (kPiT (K := K) rfl (kSz (K := K) rfl (pe_call G_openers_of (hr.mono (by decide)) (by rfl) c.openers_of.g c.openers_of.F.kp c.openers_of.b .nil pass0 (pa_cons (pv 1) pa_nil)))) (blkOk_by (N := ["vault", "other", "own"]) (sc := defScope s_new_openers) (by decide +kernel)) (fun _ _ _ _ _ => pg_name (i := 2) sc_new_openers.nd rfl (Or.inl rfl)) (fun _ _ _ _ _ => (pts_one (pt_not (pt_val (pe_call G_has_opener (hr.mono (by decide)) (by rfl) c.has_opener.g c.has_opener.F.kp c.has_opener.b .nil pass0 (pa_cons (pe_call G_openers_of (hr.mono (by decide)) (by rfl) c.openers_of.g c.openers_of.F.kp c.openers_of.b .nil pass0 (pa_cons (pv 0) pa_nil)) (pa_cons (pv 2) pa_nil))))))) (fun _ _ _ _ _ => (pv 2))) pa_nil))))), fun D q => ?_⟩
    refine sd_drop f tk (ed_call (d := .none) (eda_cons (ed_var rfl r1) (eda_cons (ed_var rfl r2) eda_nil)) ⟨vt.1, dTT vt.2, dTT ot.2, hn, by rw [← hk]; unfold dV; rw [hk], rfl⟩) fun B1 H1 s1 => ?_
    have r1' := Dp.sub s1.sub _ _ r1
    have r2' := Dp.sub s1.sub _ _ r2
    refine sd_ret s1.fz (s1.ok tk) (ed_tupleOf (ds := (newO vt ot).map dT) (ed_filT (enc := dT) (xs := ot.2) (fun a => !ho vt.2 a) (ed_call (d := dTT ot.2) (eda_cons (ed_var rfl r2') eda_nil) ⟨ot, rfl, rfl⟩) (fun _ => rfl)
      (fun a _ va B3 sb ra => et_not (et_B (ed_call (eda_cons (ed_call (d := dTT vt.2) (eda_cons (ed_var rfl (Dp.sub sb _ _ r1')) eda_nil) ⟨vt, rfl, rfl⟩) (eda_cons (ed_var rfl ra) eda_nil)) ⟨vt.2, a, rfl, rfl⟩)))
      (fun a _ va B3 sb ra _ => ed_var rfl ra)) (.inl rfl)) fun v' B' H' s' r' => q v' B' H' (s1.trans s') r'
theorem ok_lost_openers (c : Code K mg) (G_new_openers : FnOk P w K mg base CX0 6 c.new_openers.f c.new_openers.fd ["vault", "other"] (spD T K A_new_openers)) : FnOk P w K mg base CX0 7 c.lost_openers.f c.lost_openers.fd ["vault", "other"] (spD T K A_lost_openers) := by
  refine pure_ok c.lost_openers.F sc_lost_openers (fun ds d h => ?_) (fun cdv A' outer s H B vs ds d E hr f tk r hA => ?_)
  · obtain ⟨_, _, _, _, rfl, _⟩ := h; rfl
  · obtain ⟨vt, ot, hk, hn, rfl, rfl⟩ := hA
    obtain ⟨v, u, rfl, r1, r2⟩ := DpAll.two r
    refine ⟨_, (pss_one (ps_ret (pe_call G_new_openers (hr.mono (by decide)) (by rfl) c.new_openers.g c.new_openers.F.kp c.new_openers.b .nil pass0 (pa_cons (pv 1) (pa_cons (pv 0) pa_nil))))), fun D q => ?_⟩
    exact sd_ret f tk (ed_call (eda_cons (ed_var rfl r2) (eda_cons (ed_var rfl r1) eda_nil)) ⟨ot, vt, hk.symm, hk ▸ hn, rfl, rfl⟩) q
theorem ok_is_milder (c : Code K mg) (G_lost_openers : FnOk P w K mg base CX0 7 c.lost_openers.f c.lost_openers.fd ["vault", "other"] (spD T K A_lost_openers)) : FnOk P w K mg base CX0 8 c.is_milder.f c.is_milder.fd ["vault", "other"] (spD T K A_is_milder) := by
  refine pure_ok c.is_milder.F sc_is_milder (fun ds d h => ?_) (fun cdv A' outer s H B vs ds d E hr f tk r hA => ?_)
  · obtain ⟨_, _, _, _, rfl, _⟩ := h; rfl
  · obtain ⟨vt, ot, hk, hn, rfl, rfl⟩ := hA
    obtain ⟨v, u, rfl, r1, r2⟩ := DpAll.two r
    refine ⟨_, (pss_one (ps_ret (pe_cmpR op_eq (pe_callB (kLen (K := K) rfl) (by rfl) c.m_len (by decide +kernel) (pa_cons (pe_call G_lost_openers (hr.mono (by decide)) (by rfl) c.lost_openers.g c.lost_openers.F.kp c.lost_openers.b .nil pass0 (pa_cons (pv 0) (pa_cons (pv 1) pa_nil))) pa_nil)) pe_int (nomark _)))), fun D q => ?_⟩
    exact sd_ret f tk ((ed_eqI (ed_len (ds := (newO ot vt).map dT) (ed_call (d := dTT (newO ot vt)) (eda_cons (ed_var rfl r1) (eda_cons (ed_var rfl r2) eda_nil)) ⟨vt, ot, hk, hn, rfl, rfl⟩) (.inr rfl)) (ed_int 0)).is (by
      rw [List.length_map]
      congr 1
      rw [decide_eq_decide]
      omega)) q
theorem ok_handed (c : Code K mg) (G_check_keys : FnOk P w K mg base CX0 1 c.check_keys.f c.check_keys.fd ["vault", "names"] (spD T K A_check_keys)) (G_tupled : FnOk P w K mg base CX0 4 c.tupled.f c.tupled.fd ["value"] (spD T K (A_tup 3))) : FnOk P w K mg base CX0 5 c.handed.f c.handed.fd ["vault", "holders", "key", "person"] (spD T K A_handed) := by
  refine pure_ok c.handed.F sc_handed (fun ds d h => ?_) (fun cdv A' outer s H B vs ds d E hr f tk r hA => ?_)
  · obtain ⟨_, _, _, _, _, rfl, _⟩ := h; rfl
  · obtain ⟨vt, h, k, p, hk, rfl, rfl⟩ := hA
    obtain ⟨v, u, z, y, rfl, r1, r2, r3, r4⟩ := DpAll.four r
    refine ⟨_, (pss_cons (ps_expr (pe_call G_check_keys (hr.mono (by decide)) (by rfl) c.check_keys.g c.check_keys.F.kp c.check_keys.b .nil pass0 (pa_cons (pv 0) (pa_cons (pe_tup (pa_cons (pv 2) pa_nil)) pa_nil)))) (pss_cons (ps_set (i := 4) sc_handed.nd rfl (Or.inl rfl) (pe_ix (kIxT (K := K) rfl) (pe_call G_tupled (hr.mono (by decide)) (by rfl) c.tupled.g c.tupled.F.kp c.tupled.b .nil pass0 (pa_cons (pv 0) pa_nil)) pe_int (fun _ _ => rfl))) (pss_one (ps_ret (pe_callTy (kTuple (K := K) rfl) (by rfl) c.m_tuple (by decide +kernel) (pa_cons (pe_lc (own := [("own", 5), ("name", 6)]) (g := gPair K 5 6) (tt := tYes) rfl sc_handed.nd (kPiZ (K := K) rfl (by rfl) c.m_zip (pa_cons (pv 4) (pa_cons (kSz (K := K) rfl (pe_call G_tupled (hr.mono (by decide)) (by rfl) c.tupled.g c.tupled.F.kp c.tupled.b .nil pass0 (pa_cons (pv 1) pa_nil))) pa_nil))) (blkOk_by (N := ["vault", "holders", "key", "person", "keys", "own", "name"]) (sc := defScope s_handed) (by decide +kernel)) (fun _ _ _ _ _ => kTupTg (K := K) rfl rfl (pgs_cons (pg_name (i := 5) sc_handed.nd rfl (Or.inl rfl)) (pgs_cons (pg_name (i := 6) sc_handed.nd rfl (Or.inl rfl)) pgs_nil))) (fun _ _ _ _ _ => pts_nil) (fun _ _ _ _ _ => (pe_ifExp (pt_cmpR op_eq (pv 5) (pv 2) (nomark _)) (pv 3) (pv 6)))) pa_nil)))))), fun D q => ?_⟩
    refine sd_drop f tk (ed_call (d := .none) (eda_cons (ed_var rfl r1) (eda_cons (ed_tup (eda_cons (ed_var rfl r3) eda_nil) len1) eda_nil)) ⟨vt.1, [k], dTT vt.2, dT [k], fun y hy => by rw [List.mem_singleton.mp hy]; exact hk, .inr rfl, rfl, rfl⟩) fun B1 H1 s1 => ?_
    refine sd_asg s1.fz (s1.ok tk) (ed_ixT (d := dT vt.1) (ed_call (d := dV vt) (eda_cons (ed_var rfl (Dp.sub s1.sub _ _ r1)) eda_nil) ⟨dV vt, dep_dV _, rfl, (tup_dV _).symm⟩) (ed_int 0) rfl) fun vk B2 H2 s2 rk => ?_
    have s12 := s1.trans s2
    refine sd_ret s2.fz (s12.ok tk) ((ed_tupleOf (ds := (handE vt.1 h k p).map .str) ((ed_lcZT (enc := PyData.str) (enc2 := PyData.str) (xs := vt.1) (ys := h) (fun _ => true) (fun z => .str (if z.1 = k then p else z.2)) (ed_var rfl rk)
      (ed_call (d := dT h) (eda_cons (ed_var rfl (Dp.sub s12.sub _ _ r2)) eda_nil) ⟨dT h, by rw [dep_dT]; decide, rfl, (tup_dT _).symm⟩) (fun _ _ => rfl) (fun _ _ _ _ _ _ _ _ => et_yes)
      (fun z _ v1 u1 B3 sb ra rb _ => ed_if (et_test (ed_eqS (ed_var rfl ra) (ed_var rfl (Dp.sub (s12.sub.trans sb) _ _ r3)))) (fun hb => (ed_var rfl (Dp.sub (s12.sub.trans sb) _ _ r4)).is (by rw [if_pos (of_decide_eq_true hb)])) (fun hb => (ed_var rfl rb).is (by rw [if_neg (of_decide_eq_false hb)])))).is (by rw [ft_true]; unfold handE; rw [List.map_map]; rfl)) (.inl rfl))) fun v' B' H' s' r' => q v' B' H' (s12.trans s') r'
theorem ok_keys_with (c : Code K mg) (G_tupled : FnOk P w K mg base CX0 4 c.tupled.f c.tupled.fd ["value"] (spD T K (A_tup 3))) : FnOk P w K mg base CX0 5 c.keys_with.f c.keys_with.fd ["vault", "holders", "group"] (spD T K A_keys_with) := by
  refine pure_ok c.keys_with.F sc_keys_with (fun ds d h => ?_) (fun cdv A' outer s H B vs ds d E hr f tk r hA => ?_)
  · obtain ⟨_, _, _, rfl, _⟩ := h; rfl
  · obtain ⟨vt, h, g, rfl, rfl⟩ := hA
    obtain ⟨v, u, z, rfl, r1, r2, r3⟩ := DpAll.three r
    refine ⟨_, (pss_one (ps_ret (pe_callTy (kTuple (K := K) rfl) (by rfl) c.m_tuple (by decide +kernel) (pa_cons (pe_lc (own := [("key", 3), ("person", 4)]) (g := gPair K 3 4) rfl sc_keys_with.nd (kPiZ (K := K) rfl (by rfl) c.m_zip (pa_cons (pe_ix (kIxT (K := K) rfl) (pe_call G_tupled (hr.mono (by decide)) (by rfl) c.tupled.g c.tupled.F.kp c.tupled.b .nil pass0 (pa_cons (pv 0) pa_nil)) pe_int (fun _ _ => rfl)) (pa_cons (kSz (K := K) rfl (pe_call G_tupled (hr.mono (by decide)) (by rfl) c.tupled.g c.tupled.F.kp c.tupled.b .nil pass0 (pa_cons (pv 1) pa_nil))) pa_nil))) (blkOk_by (N := ["vault", "holders", "group", "key", "person"]) (sc := defScope s_keys_with) (by decide +kernel)) (fun _ _ _ _ _ => kTupTg (K := K) rfl rfl (pgs_cons (pg_name (i := 3) sc_keys_with.nd rfl (Or.inl rfl)) (pgs_cons (pg_name (i := 4) sc_keys_with.nd rfl (Or.inl rfl)) pgs_nil))) (fun _ _ _ _ _ => (pts_one (pt_cmpR (kIn (K := K) rfl) (pv 4) (pv 2) (by rfl)))) (fun _ _ _ _ _ => (pv 3))) pa_nil)))), fun D q => ?_⟩
    refine sd_ret f tk ((ed_tupleOf (ds := (kwth vt.1 h g).map .str) ((ed_lcZT (enc := PyData.str) (enc2 := PyData.str) (xs := vt.1) (ys := h) (fun z => decide (z.2 ∈ g)) (fun z => .str z.1) (ed_ixT (d := dT vt.1) (ed_call (d := dV vt) (eda_cons (ed_var rfl r1) eda_nil) ⟨dV vt, dep_dV _, rfl, (tup_dV _).symm⟩) (ed_int 0) rfl)
      (ed_call (d := dT h) (eda_cons (ed_var rfl r2) eda_nil) ⟨dT h, by rw [dep_dT]; decide, rfl, (tup_dT _).symm⟩) (fun _ _ => rfl) (fun z _ v1 u1 B3 sb ra rb => et_test (ed_in (neg := false) (ed_var rfl rb) (ed_var rfl (Dp.sub sb _ _ r3)) (.inr rfl)))
      (fun z _ v1 u1 B3 sb ra rb _ => ed_var rfl ra)).is (by unfold kwth; rw [List.map_map]; rfl)) (.inl rfl))) q
theorem ok_group_opens (c : Code K mg) (G_has_opener : FnOk P w K mg base CX0 2 c.has_opener.f c.has_opener.fd ["openers", "held"] (spD T K A_has_opener)) (G_openers_of : FnOk P w K mg base CX0 5 c.openers_of.f c.openers_of.fd ["vault"] (spD T K A_openers_of)) (G_keys_with : FnOk P w K mg base CX0 5 c.keys_with.f c.keys_with.fd ["vault", "holders", "group"] (spD T K A_keys_with)) : FnOk P w K mg base CX0 6 c.group_opens.f c.group_opens.fd ["vault", "holders", "group"] (spD T K A_group_opens) := by
  refine pure_ok c.group_opens.F sc_group_opens (fun ds d h => ?_) (fun cdv A' outer s H B vs ds d E hr f tk r hA => ?_)
  · obtain ⟨_, _, _, rfl, _⟩ := h; rfl
  · obtain ⟨vt, h, g, rfl, rfl⟩ := hA
    obtain ⟨v, u, z, rfl, r1, r2, r3⟩ := DpAll.three r
    refine ⟨_, (pss_one (ps_ret (pe_call G_has_opener (hr.mono (by decide)) (by rfl) c.has_opener.g c.has_opener.F.kp c.has_opener.b .nil pass0 (pa_cons (pe_call G_openers_of (hr.mono (by decide)) (by rfl) c.openers_of.g c.openers_of.F.kp c.openers_of.b .nil pass0 (pa_cons (pv 0) pa_nil)) (pa_cons (pe_call G_keys_with (hr.mono (by decide)) (by rfl) c.keys_with.g c.keys_with.F.kp c.keys_with.b .nil pass0 (pa_cons (pv 0) (pa_cons (pv 1) (pa_cons (pv 2) pa_nil)))) pa_nil))))), fun D q => ?_⟩
    exact sd_ret f tk (ed_call (eda_cons (ed_call (d := dTT vt.2) (eda_cons (ed_var rfl r1) eda_nil) ⟨vt, rfl, rfl⟩) (eda_cons (ed_call (d := dT (kwth vt.1 h g)) (eda_cons (ed_var rfl r1) (eda_cons (ed_var rfl r2) (eda_cons (ed_var rfl r3) eda_nil))) ⟨vt, h, g, rfl, rfl⟩) eda_nil)) ⟨vt.2, _, rfl, rfl⟩) q
theorem ok_groups_that (c : Code K mg) (G_set_of : FnOk P w K mg base CX0 1 c.set_of.f c.set_of.fd ["some"] (spD T K A_set_ofS)) (G_tupled : FnOk P w K mg base CX0 4 c.tupled.f c.tupled.fd ["value"] (spD T K (A_tup 3))) (G_subsets : FnOk P w K mg base CX0 1 c.subsets.f c.subsets.fd ["things"] (spD T K A_subsets)) (G_group_opens : FnOk P w K mg base CX0 6 c.group_opens.f c.group_opens.fd ["vault", "holders", "group"] (spD T K A_group_opens)) (G_least_sets : FnOk P w K mg base CX0 3 c.least_sets.f c.least_sets.fd ["sets"] (spD T K A_least)) : FnOk P w K mg base CX0 7 c.groups_that.f c.groups_that.fd ["vault", "holders", "later"] (spD T K A_groups_that) := by
  refine pure_ok c.groups_that.F sc_groups_that (fun ds d h => ?_) (fun cdv A' outer s H B vs ds d E hr f tk r hA => ?_)
  · obtain ⟨_, _, _, _, _, _, rfl, _⟩ := h; rfl
  · obtain ⟨vt, h, l, hl1, hl2, hp5, rfl, rfl⟩ := hA
    obtain ⟨v, u, z, rfl, r1, r2, r3⟩ := DpAll.three r
    have few : Few (h ++ l) := ⟨us sLt (h ++ l), by omega, fun x hx => mem_us.mpr hx⟩
    have up := us_up sLt_to (h ++ l)
    have slen : (subs (us sLt (h ++ l))).length < 62 := by
      unfold subs
      rw [(srt_perm _).length_eq, subsU_len]
      have : 2 ^ (us sLt (h ++ l)).length ≤ 2 ^ 5 := Nat.pow_le_pow_right (by decide) hp5
      omega
    refine ⟨_, (pss_cons (ps_set (i := 3) sc_groups_that.nd rfl (Or.inl rfl) (pe_call G_set_of (hr.mono (by decide)) (by rfl) c.set_of.g c.set_of.F.kp c.set_of.b .nil pass0 (pa_cons (pe_lst (kStar (K := K) rfl (pe_call G_tupled (hr.mono (by decide)) (by rfl) c.tupled.g c.tupled.F.kp c.tupled.b .nil pass0 (pa_cons (pv 1) pa_nil)) (kStar (K := K) rfl (pe_call G_tupled (hr.mono (by decide)) (by rfl) c.tupled.g c.tupled.F.kp c.tupled.b .nil pass0 (pa_cons (pv 2) pa_nil)) pa_nil))) pa_nil))) (pss_cons (ps_set (i := 4) sc_groups_that.nd rfl (Or.inl rfl) (pe_lst pa_nil)) (pss_cons (ps_for PassesOwn.never rfl (kPiL (K := K) rfl (kSz (K := K) rfl (pe_call G_subsets (hr.mono (by decide)) (by rfl) c.subsets.g c.subsets.F.kp c.subsets.b .nil pass0 (pa_cons (pv 3) pa_nil)))) (pg_name (i := 5) sc_groups_that.nd rfl (Or.inl rfl)) (pss_one (ps_if (PW.pt (pw_and (pt_val (pe_call G_group_opens (hr.mono (by decide)) (by rfl) c.group_opens.g c.group_opens.F.kp c.group_opens.b .nil pass0 (pa_cons (pv 0) (pa_cons (pv 2) (pa_cons (pv 5) pa_nil))))) (pw_and1 (pt_not (pt_val (pe_call G_group_opens (hr.mono (by decide)) (by rfl) c.group_opens.g c.group_opens.F.kp c.group_opens.b .nil pass0 (pa_cons (pv 0) (pa_cons (pv 1) (pa_cons (pv 5) pa_nil))))))))) (pss_one (ps_expr (pe_bm PySem.F.plainAttrs_list PySem.F.slot_list_append PySem.F.type_list_append mt_append (pv 4) (pa_cons (pv 5) pa_nil)))) pss_nil))) (pss_one (ps_ret (pe_call G_least_sets (hr.mono (by decide)) (by rfl) c.least_sets.g c.least_sets.F.kp c.least_sets.b .nil pass0 (pa_cons (pv 4) pa_nil))))))), fun D q => ?_⟩
    refine sd_asg f tk (ed_call (d := dT (us sLt (h ++ l))) (eda_cons ((ed_lst (eda_star (ed_call (d := dT h) (eda_cons (ed_var rfl r2) eda_nil) ⟨dT h, by rw [dep_dT]; decide, rfl, (tup_dT _).symm⟩) (.inr rfl) (eda_star (ed_call (d := dT l) (eda_cons (ed_var rfl r3) eda_nil) ⟨dT l, by rw [dep_dT]; decide, rfl, (tup_dT _).symm⟩) (.inr rfl) eda_nil)) ?_).is (e := dL (h ++ l)) ?_) eda_nil) ⟨h ++ l, few, ⟨_, .inl rfl, rfl⟩, rfl⟩) fun vp B1 H1 s1 rp => ?_
    · rw [List.append_nil, List.length_append, List.length_map, List.length_map, ← big_line]; omega
    · unfold dL; rw [List.append_nil, List.map_append]
    refine sd_newM (T := T) (K := K) s1.fz fun p H2 m0 => ?_
    have tk1 := s1.ok tk
    refine sd_forL (enc := dT) (xs := subs (us sLt (h ++ l))) m0.st.fz (m0.st.ok tk1) (ed_call (d := dLT (subs (us sLt (h ++ l)))) (eda_cons (ed_var rfl rp) eda_nil) ⟨_, by omega, rfl, rfl⟩) fun B3 H3 s3 => ?_
    refine ⟨fun i σ' H' => ∃ o5 B', σ' = [some v, some u, some z, some vp, some (.ref p), o5] ∧ Sub B3 B' ∧ Mkg T K B1 H1 p ((((subs (us sLt (h ++ l))).take i).filter fun g => gop vt l g && !gop vt h g).map dT) B' H', ?_, ?_, ?_, ?_⟩
    · exact ⟨none, B3, rfl, Sub.refl _, m0.step s3⟩
    · rintro i σ' H' ⟨_, _, _, sb, m⟩
      exact m.st.fz.sub sb
    · rintro i g v1 σ' H' hx rx ⟨o5, B', rfl, sb, m⟩
      have hi : i < (subs (us sLt (h ++ l))).length := (List.getElem?_eq_some_iff.mp hx).1
      have e1 : (subs (us sLt (h ++ l))).take (i + 1) = (subs (us sLt (h ++ l))).take i ++ [g] := by rw [List.take_succ, hx]; rfl
      have up' : ∀ {x : V} {d : PyData}, Dp K B x d → Dp K B' x d := fun {x d} r => Dp.sub ((s1.sub.trans s3.sub).trans sb) _ _ r
      refine sd_if m.st.fz (m.st.ok tk1) (et_and (et_B (ed_call (eda_cons (ed_var rfl (up' r1)) (eda_cons (ed_var rfl (up' r3)) (eda_cons (ed_var rfl (Dp.sub sb _ _ rx)) eda_nil))) ⟨vt, l, g, rfl, rfl⟩)) (fun _ => et_not (et_B (ed_call (eda_cons (ed_var rfl (up' r1)) (eda_cons (ed_var rfl (up' r2)) (eda_cons (ed_var rfl (Dp.sub sb _ _ rx)) eda_nil))) ⟨vt, h, g, rfl, rfl⟩)))) (fun hb H4 s4 => ?_) (fun hb H4 s4 => ?_)
      · refine sd_app (K := K) (m.step s4) ((m.step s4).st.ok tk1) rfl ?_ (ed_var rfl (Dp.sub sb _ _ rx)) fun B5 H5 sb5 m5 => ⟨_, B5, rfl, sb.trans sb5, ?_⟩
        · have h1 : (((subs (us sLt (h ++ l))).take i).filter fun g => gop vt l g && !gop vt h g).length ≤ i := Nat.le_trans (List.length_filter_le _ _) (by rw [List.length_take]; exact Nat.min_le_left _ _)
          rw [List.length_map, ← big_line]
          omega
        · rw [e1, List.filter_append, List.map_append]
          simpa [hb] using m5
      · refine ⟨_, B', rfl, sb, ?_⟩
        rw [e1, List.filter_append]
        simpa [hb] using m.step s4
    · rintro σ' H' ⟨o5, B', rfl, sb, m⟩
      rw [List.take_length] at m
      obtain ⟨B2, s2, _, r2'⟩ := m.done
      refine sd_ret s2.fz (s2.ok tk1) (ed_call (eda_cons (ed_var rfl r2') eda_nil) ⟨_, ?_, fun k hk => ?_, rfl, rfl⟩) fun v' B' H' s' r' => q v' B' H' ((s1.trans s2).trans s') r'
      · exact ⟨subs (us sLt (h ++ l)), slen, fun x hx => (List.mem_filter.mp hx).1⟩
      · have h1 := (srt_perm _).mem_iff.mp (List.mem_filter.mp hk).1
        have h2 := subs_el h1
        rw [← big_line]; omega
theorem ok_new_groups (c : Code K mg) (G_groups_that : FnOk P w K mg base CX0 7 c.groups_that.f c.groups_that.fd ["vault", "holders", "later"] (spD T K A_groups_that)) : FnOk P w K mg base CX0 8 c.new_groups.f c.new_groups.fd ["vault", "holders", "later"] (spD T K A_groups_that) := by
  refine pure_ok c.new_groups.F sc_new_groups (fun ds d h => ?_) (fun cdv A' outer s H B vs ds d E hr f tk r hA => ?_)
  · obtain ⟨_, _, _, _, _, _, rfl, _⟩ := h; rfl
  · obtain ⟨vt, h, l, hl1, hl2, hp5, rfl, rfl⟩ := hA
    obtain ⟨v, u, z, rfl, r1, r2, r3⟩ := DpAll.three r
    refine ⟨_, (pss_one (ps_ret (pe_call G_groups_that (hr.mono (by decide)) (by rfl) c.groups_that.g c.groups_that.F.kp c.groups_that.b .nil pass0 (pa_cons (pv 0) (pa_cons (pv 1) (pa_cons (pv 2) pa_nil)))))), fun D q => ?_⟩
    exact sd_ret f tk (ed_call (eda_cons (ed_var rfl r1) (eda_cons (ed_var rfl r2) (eda_cons (ed_var rfl r3) eda_nil))) ⟨vt, h, l, hl1, hl2, hp5, rfl, rfl⟩) q
theorem ok_lost_groups (c : Code K mg) (G_groups_that : FnOk P w K mg base CX0 7 c.groups_that.f c.groups_that.fd ["vault", "holders", "later"] (spD T K A_groups_that)) : FnOk P w K mg base CX0 8 c.lost_groups.f c.lost_groups.fd ["vault", "holders", "later"] (spD T K A_lost_groups) := by
  refine pure_ok c.lost_groups.F sc_lost_groups (fun ds d h => ?_) (fun cdv A' outer s H B vs ds d E hr f tk r hA => ?_)
  · obtain ⟨_, _, _, _, _, _, rfl, _⟩ := h; rfl
  · obtain ⟨vt, h, l, hl1, hl2, hp5, rfl, rfl⟩ := hA
    obtain ⟨v, u, z, rfl, r1, r2, r3⟩ := DpAll.three r
    refine ⟨_, (pss_one (ps_ret (pe_call G_groups_that (hr.mono (by decide)) (by rfl) c.groups_that.g c.groups_that.F.kp c.groups_that.b .nil pass0 (pa_cons (pv 0) (pa_cons (pv 2) (pa_cons (pv 1) pa_nil)))))), fun D q => ?_⟩
    exact sd_ret f tk (ed_call (eda_cons (ed_var rfl r1) (eda_cons (ed_var rfl r3) (eda_cons (ed_var rfl r2) eda_nil))) ⟨vt, l, h, hl2, hl1, hp5, rfl, rfl⟩) q
theorem ok_are_met (c : Code K mg) (G_group_opens : FnOk P w K mg base CX0 6 c.group_opens.f c.group_opens.fd ["vault", "holders", "group"] (spD T K A_group_opens)) : FnOk P w K mg base CX0 7 c.are_met.f c.are_met.fd ["vault", "holders", "wanted", "unwanted"] (spD T K A_are_met) := by
  refine pure_ok c.are_met.F sc_are_met (fun ds d h => ?_) (fun cdv A' outer s H B vs ds d E hr f tk r hA => ?_)
  · obtain ⟨_, _, _, rfl, _⟩ := h; rfl
  · obtain ⟨vt, h, g, rfl, rfl⟩ := hA
    obtain ⟨v, u, z, y, rfl, r1, r2, r3, r4⟩ := DpAll.four r
    refine ⟨_, (pss_cons (ps_if (pt_not (pt_val (pe_callB (kAll (K := K) rfl rfl) (by rfl) c.m_all (by decide +kernel) (pa_cons (pe_lc (own := [("group", 4)]) (g := gName 4) (tt := tYes) rfl sc_are_met.nd (kPiT (K := K) rfl (kSz (K := K) rfl (pv 2))) (blkOk_by (N := ["vault", "holders", "wanted", "unwanted", "group"]) (sc := defScope s_are_met) (by decide +kernel)) (fun _ _ _ _ _ => pg_name (i := 4) sc_are_met.nd rfl (Or.inl rfl)) (fun _ _ _ _ _ => pts_nil) (fun _ _ _ _ _ => (pe_call G_group_opens (hr.mono (by decide)) (by rfl) c.group_opens.g c.group_opens.F.kp c.group_opens.b .nil pass0 (pa_cons (pv 0) (pa_cons (pv 1) (pa_cons (pv 4) pa_nil)))))) pa_nil)))) (pss_one (ps_ret pe_bl)) pss_nil) (pss_one (ps_ret (pe_not (pe_callB (kAny (K := K) rfl rfl) (by rfl) c.m_any (by decide +kernel) (pa_cons (pe_lc (own := [("group", 4)]) (g := gName 4) (tt := tYes) rfl sc_are_met.nd (kPiT (K := K) rfl (kSz (K := K) rfl (pv 3))) (blkOk_by (N := ["vault", "holders", "wanted", "unwanted", "group"]) (sc := defScope s_are_met) (by decide +kernel)) (fun _ _ _ _ _ => pg_name (i := 4) sc_are_met.nd rfl (Or.inl rfl)) (fun _ _ _ _ _ => pts_nil) (fun _ _ _ _ _ => (pe_call G_group_opens (hr.mono (by decide)) (by rfl) c.group_opens.g c.group_opens.F.kp c.group_opens.b .nil pass0 (pa_cons (pv 0) (pa_cons (pv 1) (pa_cons (pv 4) pa_nil)))))) pa_nil)))))), fun D q => ?_⟩
    refine sd_if f tk (et_not (et_B ((ed_all (bs := [gop vt h g]) (ed_mapT (enc := dT) (xs := [g]) (fun g => .bool (gop vt h g)) (ed_var rfl r3) (fun _ => rfl) fun a _ va B3 sb ra =>
      ed_call (eda_cons (ed_var rfl (Dp.sub sb _ _ r1)) (eda_cons (ed_var rfl (Dp.sub sb _ _ r2)) (eda_cons (ed_var rfl ra) eda_nil))) ⟨vt, h, a, rfl, rfl⟩)).is (e := .bool (gop vt h g)) (by simp)))) (fun hb H1 s1 => ?_) (fun hb H1 s1 => ?_)
    · have e : gop vt h g = false := by simpa using hb
      rw [e] at q
      exact sd_ret s1.fz (s1.ok tk) (ed_bl false) fun v' B' H' s' r' => q v' B' H' (s1.trans s') r'
    · have e : gop vt h g = true := by simpa using hb
      rw [e] at q
      refine sd_ret s1.fz (s1.ok tk) ((ed_notV (ed_any (bs := []) (ed_mapT (enc := dT) (xs := []) (fun g => .bool (gop vt h g)) (ed_var rfl r4) (fun _ => rfl) fun a ha => by cases ha))).is (by rfl)) fun v' B' H' s' r' => q v' B' H' (s1.trans s') r'
end
end Vk

set_option Elab.async false
set_option linter.all false
set_option maxRecDepth 100000
set_option maxHeartbeats 4000000
/-! Lists in the making from comprehensions, extend, parts, dicts, pairs. -/
namespace Vk
open PySem L2 StX
section
variable {T : Tb} {K : PySem.W.Frag} {σ : L2.St} {B H : Hp} {tl te ta tb : TE} {tt : TT} {α : Type} {j : Nat} {vs : List Nat} {xs : List α} {enc : α → PyData} {D : Ends} {d e : PyData} {ds : List PyData} {p : Addr}
theorem mk_lcT (pf : α → Bool) (g : α → PyData) (f : Fz B H) (tk : TOk T H) {Q : VK} (h : ED T K tl σ B (.tuple (xs.map enc))) (hw : ∀ x, wipe ((wipe σ vs).set j (some x)) vs = wipe σ vs)
    (ht : ∀ x ∈ xs, ∀ v B1, Sub B B1 → Dp K B1 v (enc x) → ETT T tt ((wipe σ vs).set j (some v)) B1 (pf x))
    (he : ∀ x ∈ xs, ∀ v B1, Sub B B1 → Dp K B1 v (enc x) → pf x = true → ED T K te ((wipe σ vs).set j (some v)) B1 (g x))
    (q : ∀ p B1 H1 B2 H2, St T B H B1 H1 → Mkg T K B1 H1 p ((xs.filter pf).map g) B2 H2 → Q (.ref p) H2) : tLc (iTup K (tSz K tl)) (gName j) tt te vs σ H Q :=
  h H f tk _ fun v B1 H1 s1 r1 hsz => by
    cases r1 with
    | @tup a zs _ hx t =>
      have hx1 := sqT_sub (fz_sub s1.fz) hx
      have el : zs.length = xs.length := by rw [t.length, List.length_map]
      have hl : xs.length ≤ sizeLine := by rw [← el]; exact hsz _ _ (.inr hx1)
      refine ⟨a, rfl, ⟨_, hx1⟩, fun D hD => ?_⟩
      refine lc_it (walk_tup (K := K) (a := a) (xs := zs)) (Cw T K B1 H1 D fun i => ((xs.take i).filter pf).map g) (cw_start s1.fz hD rfl) (fun i H' _ c => ?_) (fun i x H' H'' hi c y => ?_) (fun H' c => ?_)
      · obtain ⟨B', acc, s, _⟩ := c
        exact sqT_sub (fz_sub s.fz) (sqT_sub s.sub hx)
      · obtain ⟨rfl, hxi⟩ := y
        obtain ⟨x0, e1, e2, e3⟩ := enc_at t hxi
        refine ⟨hw x, cw_turn (b := pf x0) (d := g x0) (s1.ok tk) hD c ?_ (fun B' sb fb => ?_) (fun B' sb hb => ?_) (take_filter_map pf g e1)⟩
        · exact Nat.lt_of_le_of_lt (fm_len pf g i) (Nat.lt_of_lt_of_le (List.getElem?_eq_some_iff.mp e1).1 hl)
        · exact ht x0 e2 x B' (s1.sub.trans sb) (Dp.sub sb _ _ e3)
        · exact he x0 e2 x B' (s1.sub.trans sb) (Dp.sub sb _ _ e3) hb
      · obtain ⟨B', acc, s, nB, hp, r⟩ := c
        have r' : DpAll K B' acc (((xs.take zs.length).filter pf).map g) := r
        rw [el, List.take_length] at r'
        exact q D B1 H1 B' H' s1 ⟨s, hD, nB, acc, hp, r'⟩
theorem sd_lcT {i : Nat} (pf : α → Bool) (g : α → PyData) (f : Fz B H) (tk : TOk T H) (h : ED T K tl σ B (.tuple (xs.map enc))) (hw : ∀ x, wipe ((wipe σ vs).set j (some x)) vs = wipe σ vs)
    (ht : ∀ x ∈ xs, ∀ v B1, Sub B B1 → Dp K B1 v (enc x) → ETT T tt ((wipe σ vs).set j (some v)) B1 (pf x))
    (he : ∀ x ∈ xs, ∀ v B1, Sub B B1 → Dp K B1 v (enc x) → pf x = true → ED T K te ((wipe σ vs).set j (some v)) B1 (g x))
    (q : ∀ p B1 H1 B2 H2, St T B H B1 H1 → Mkg T K B1 H1 p ((xs.filter pf).map g) B2 H2 → D.nx (σ.set i (some (.ref p))) H2) : tAsg (tLc (iTup K (tSz K tl)) (gName j) tt te vs) (gName i) D σ H :=
  mk_lcT pf g f tk h hw ht he q
/-- x.extend(y), y a list that was just made -/
theorem sd_ext {i : Nat} {es : List PyData} {B1 H1 : Hp} (m : Mkg T K B H p ds B1 H1) (hv : σ[i]? = some (some (.ref p))) (hz : ds.length + es.length ≤ sizeLine)
    (hte : ∀ Q : VK, (∀ q B2 H2 B3 H3, St T B1 H1 B2 H2 → Mkg T K B2 H2 q es B3 H3 → Q (.ref q) H3) → te σ H1 Q) (k : ∀ B2 H2, Sub B1 B2 → Mkg T K B H p (ds ++ es) B2 H2 → D.nx σ H2) : tDrop (tBM K "list" rExtend (tVar i) (tCons te tNil)) D σ H1 := by
  obtain ⟨acc, hp, r⟩ := m.at_
  refine ⟨.ref p, hv, .inl ⟨rfl, _, SqL.of hp⟩, hte _ fun q B2 H2 B3 H3 s2 m3 => ?_⟩
  have m' := (m.step s2).step m3.st
  obtain ⟨acc', hp', r'⟩ := m'.at_
  obtain ⟨zs, hq, rz⟩ := m3.at_
  refine ⟨p, q, acc', zs, rfl, rfl, hp', hq, by rw [r'.length, rz.length]; exact hz, k B3 _ (s2.sub.trans m3.st.sub) ⟨m'.st.mut m.n m'.nB hp', m.n, m'.nB, _, upd_same, DpAll.append r' rz⟩⟩
theorem ed_negI (i : Int) : ED T K (tUn (rU fun i => .int (-i)) (tC (.int i))) σ B (.int (-i)) := fun H f _ Q q => ⟨i, rfl, q _ B H (St.refl f) (.int _)⟩
/-- t[lo:hi], written parts -/
def cutD (ds : List PyData) (lo hi : Option Int) : List PyData := (ds.drop (HT.sIx ds.length 0 lo)).take (HT.sIx ds.length ds.length hi - HT.sIx ds.length 0 lo)
theorem dp_cut {B : Hp} {zs : List V} {ds : List PyData} (r : DpAll K B zs ds) (lo hi : Option Int) : DpAll K B (cutV zs lo hi) (cutD ds lo hi) := by
  unfold cutV cutD
  rw [r.length]
  exact DpAll.take _ (DpAll.drop _ r)
theorem ed_slT {tlo thi : L2.TO} {lo hi : Option Int} (h : ED T K ta σ B (.tuple ds)) (hlo : ∀ H Q, tlo σ H Q = Q lo H) (hhi : ∀ H Q, thi σ H Q = Q hi H) : ED T K (tSl (rSlA K) ta tlo thi) σ B (.tuple (cutD ds lo hi)) := fun H f tk Q q =>
  h H f tk _ fun v B1 H1 s1 r1 => by
    rw [hlo, hhi]
    cases r1 with
    | @tup a zs _ hx t =>
      refine ⟨a, zs, rfl, sqT_sub (fz_sub s1.fz) hx, fun e => ?_, fun _ p n => ?_⟩
      · refine q _ _ _ s1 ?_
        have : cutD ds lo hi = ds := by
          unfold cutD
          rw [← t.length, e.1, e.2, t.length, List.drop_zero, Nat.sub_zero, List.take_length]
        rw [this]
        exact .tup hx t
      · exact q _ _ _ (s1.trans (St.laid s1.fz n noT_tup)) (Dp.newT (s1.fz.off n) (dp_cut t lo hi))
theorem ed_slL {tlo thi : L2.TO} {lo hi : Option Int} (h : ED T K ta σ B (.list ds)) (hlo : ∀ H Q, tlo σ H Q = Q lo H) (hhi : ∀ H Q, thi σ H Q = Q hi H) : ED T K (tSl (rSlL K) ta tlo thi) σ B (.list (cutD ds lo hi)) := fun H f tk Q q =>
  h H f tk _ fun v B1 H1 s1 r1 => by
    rw [hlo, hhi]
    cases r1 with
    | @lst a zs _ hx t =>
      exact ⟨a, zs, rfl, sqL_sub (fz_sub s1.fz) hx, fun p n => q _ _ _ (s1.trans (St.laid s1.fz n noT_lst)) (Dp.newL (s1.fz.off n) (dp_cut t lo hi))⟩
theorem part_int (i : Int) (H : Hp) (Q : Option Int → Hp → Prop) : tPart (tC (.int i)) σ H Q = Q (some i) H := propext ⟨fun ⟨j, e, q⟩ => by cases e; exact q, fun q => ⟨i, rfl, q⟩⟩
theorem part_no (H : Hp) (Q : Option Int → Hp → Prop) : tNoPart σ H Q = Q none H := rfl
/-! a pair stored -/
theorem sd_par {i k : Nat} (f : Fz B H) (tk : TOk T H) (h : EDA T K (tCons ta (tCons tb tNil)) σ B [d, e]) (q : ∀ v w B' H', St T B H B' H' → Dp K B' v d → Dp K B' w e → D.nx ((σ.set i (some v)).set k (some w)) H') : tPar i k (tCons ta (tCons tb tNil)) D σ H :=
  h H f tk _ fun vs B' H' s r => by
    obtain ⟨v, w, rfl, r1, r2⟩ := DpAll.two r
    exact ⟨v, w, rfl, q v w B' H' s r1 r2⟩
theorem sd_asg2 {i k : Nat} (f : Fz B H) (tk : TOk T H) (h : ED T K te σ B (.tuple [d, e])) (q : ∀ v w B' H', St T B H B' H' → Dp K B' v d → Dp K B' w e → D.nx ((σ.set i (some v)).set k (some w)) H') : tAsg te (gPair K i k) D σ H :=
  h H f tk _ fun v B' H' s r => by
    cases r with
    | @tup a zs _ hx t =>
      obtain ⟨x, y, rfl, r1, r2⟩ := DpAll.two t
      exact ⟨a, _, rfl, sqT_sub (fz_sub s.fz) hx, rfl, x, [y], rfl, y, [], rfl, rfl, q x y B' H' s r1 r2⟩
/-! {a: b, b: a}, .get(x, x) -/
theorem upd_upd {H : Hp} {p : Addr} {o u : HO} : upd (upd H p o) p u = upd H p u := by
  funext b
  unfold upd
  split <;> rfl
theorem noT_dk {kvs : List (L2.Key × V)} : NoT (.dK kvs) := fun _ z => nomatch z
def swpK (x y : Str) : List (L2.Key × V) := mergeK [] [(.inr x, .str y), (.inr y, .str x)]
theorem swpK_get (x y n : Str) : (valV (swpK x y) (.inr n)).getD (.str n) = .str (if n = y then x else if n = x then y else n) := by
  unfold swpK mergeK putK
  by_cases h : x = y
  · subst h
    by_cases hn : n = x
    · subst hn; simp [valV]
    · have hn' : ¬ x = n := fun z => hn z.symm
      simp [valV, hn, hn']
  · by_cases hn : n = y
    · subst hn
      have : ¬ x = n := h
      simp [valV, this]
    · by_cases hm : n = x
      · subst hm
        have h' : ¬ n = y := hn
        simp [valV, h, hn]
      · have e1 : ¬ x = n := fun z => hm z.symm
        have e2 : ¬ y = n := fun z => hn z.symm
        simp [valV, h, hn, hm, e1, e2]
theorem sd_table {i : Nat} {x y : Str} {a b : Nat} (f : Fz B H) (ha : σ[a]? = some (some (.str x))) (hb : σ[b]? = some (some (.str y))) (k : ∀ p, H p = none → B p = none → D.nx (σ.set i (some (.ref p))) (upd H p (.dK (swpK x y)))) :
    tAsg (tDisp [(tVar a, tVar b), (tVar b, tVar a)]) (gName i) D σ H := fun p n => ⟨.str x, ha, .str y, hb, .str y, hb, .str x, ha, upd_same, [(.inr x, .str y), (.inr y, .str x)], rfl, (by show 2 ≤ 15; decide), by
  rw [upd_upd]
  exact k p n (f.off n)⟩
theorem ed_get {i k : Nat} {x y n : Str} (h : B p = some (.dK (swpK x y))) (hi : σ[i]? = some (some (.ref p))) (hk : σ[k]? = some (some (.str n))) : ED T K (tDGet2 (tVar i) (tVar k) (tVar k)) σ B (.str (if n = y then x else if n = x then y else n)) := fun H f _ Q q => by
  have hp := (f p _ h).1
  refine ⟨.ref p, hi, p, rfl, .inl ⟨_, Rd.of hp⟩, .str n, hk, .str n, hk, _, DGet.k (k := .inr n) hp, ?_⟩
  rw [swpK_get]
  exact q _ B H (St.refl f) (.str _)
end
end Vk

set_option Elab.async false
set_option linter.all false
set_option maxRecDepth 100000
set_option maxHeartbeats 4000000
/-! The plain part of the program: edits (printed by p3.py). -/
namespace Vk
open PySem L2 StX
inductive Ed where
  | opens (l : Ks)
  | bars (l : Ks)
  | lost (x : Str)
  | left (x : Str)
  | swap (x y : Str)
  | hand (x p : Str)
def dE : Ed → PyData
  | .opens l => .tuple [.str "opens", dT l]
  | .bars l => .tuple [.str "bars", dT l]
  | .lost x => .tuple [.str "lost", .str x]
  | .left x => .tuple [.str "left", .str x]
  | .swap x y => .tuple [.str "swap", .str x, .str y]
  | .hand x p => .tuple [.str "hand", .str x, .str p]
def knm : Ed → Ks
  | .opens l => l
  | .bars l => l
  | .lost x => [x]
  | .left x => [x]
  | .swap x y => [x, y]
  | .hand x _ => [x]
def wkS (s : Ks) (F : Kss) (o : Ks) : Kss := if o ∈ F then F else F ++ s.map fun n => srt sLt (o ++ [n])
def wk0 (L : Kss) (s : Ks) : Kss := L.filter fun o => s.any fun n => decide (n ∈ o)
def wkm (L : Kss) (s : Ks) : Kss := L.foldl (wkS s) (wk0 L s)
def swN (x y n : Str) : Str := if n = y then x else if n = x then y else n
def swp (s : Ks) (x y : Str) : Ks := srt sLt (s.map (swN x y))
def edO (L : Kss) : Ed → Kss
  | .opens l => L ++ [l]
  | .bars l => wkm L l
  | .lost x => L.filter fun o => !decide (x ∈ o)
  | .left x => L.map fun o => o.filter fun n => !decide (n = x)
  | .swap x y => L.map fun o => swp o x y
  | .hand _ _ => L
def edH (ks h : Ks) : Ed → Ks
  | .hand x p => handE ks h x p
  | _ => h
abbrev Stt := Vt × Ks
def edt (v : Vt) (h : Ks) (e : Ed) : Stt := (leastV v.1 (edO v.2 e), edH v.1 h e)
def dSt (s : Stt) : PyData := .tuple [dV s.1, dT s.2]
structure Okk (L : Kss) : Prop where
  nm : Nmss L
  n : L.length ≤ 100
  el : ∀ l ∈ L, l.length ≤ 100
def A_keys_named (ds : List PyData) (d : PyData) : Prop := ∃ e : Ed, ds = [dE e] ∧ d = dT (knm e)
def A_check_edit (ds : List PyData) (d : PyData) : Prop := ∃ (v : Vt) (e : Ed), (∀ x ∈ knm e, x ∈ v.1) ∧ ds = [dV v, dE e] ∧ d = .none
def A_with_key_more (ds : List PyData) (d : PyData) : Prop := ∃ (L : Kss) (s : Ks), Okk L ∧ Nms s ∧ s.length ≤ 100 ∧ ds = [dTT L, dT s] ∧ d = dLT (wkm L s)
def A_swapped (ds : List PyData) (d : PyData) : Prop := ∃ (s : Ks) (x y : Str), ds = [dT s, dS x, dS y] ∧ d = dT (swp s x y)
def A_edited_openers (ds : List PyData) (d : PyData) : Prop := ∃ (L : Kss) (e : Ed), Okk L ∧ Nms (knm e) ∧ (knm e).length ≤ 100 ∧ ds = [dTT L, dE e] ∧ d = dLT (edO L e)
def A_edited (ds : List PyData) (d : PyData) : Prop := ∃ (v : Vt) (h : Ks) (e : Ed), WKs v.1 ∧ InK v.1 v.2 ∧ Okk v.2 ∧ (∀ x ∈ knm e, x ∈ v.1) ∧ (knm e).length ≤ 5 ∧ ds = [dV v, dT h, dE e] ∧ d = dSt (edt v h e)
theorem wkS_no {s : Ks} {F : Kss} {o : Ks} (h : o ∉ F) : wkS s F o = F ++ s.map fun n => srt sLt (o ++ [n]) := by unfold wkS; rw [if_neg h]
theorem wkS_yes {s : Ks} {F : Kss} {o : Ks} (h : o ∈ F) : wkS s F o = F := by unfold wkS; rw [if_pos h]
theorem wk_take {L : Kss} {i : Nat} {o : Ks} {s : Ks} {F : Kss} (h : L[i]? = some o) : (L.take (i + 1)).foldl (wkS s) F = wkS s ((L.take i).foldl (wkS s) F) o := by
  have : L.take (i + 1) = L.take i ++ [o] := by rw [List.take_succ, h]; rfl
  rw [this, List.foldl_append]; rfl
theorem wk_inv {L : Kss} {s : Ks} (ok : Okk L) (hn : Nms s) : ∀ i, Nmss ((L.take i).foldl (wkS s) (wk0 L s)) ∧ ((L.take i).foldl (wkS s) (wk0 L s)).length ≤ L.length + i * s.length := by
  intro i
  induction i with
  | zero => exact ⟨fun l hl => ok.nm l (List.mem_filter.mp hl).1, Nat.le_trans (List.length_filter_le _ _) (Nat.le_add_right _ _)⟩
  | succ i ih =>
    cases q : L[i]? with
    | none =>
      have : L.take (i + 1) = L.take i := by rw [List.take_succ, q]; simp
      rw [this]
      exact ⟨ih.1, by rw [Nat.succ_mul]; omega⟩
    | some o =>
      rw [wk_take q]
      generalize (L.take i).foldl (wkS s) (wk0 L s) = F at ih ⊢
      unfold wkS
      split
      · exact ⟨ih.1, by rw [Nat.succ_mul]; omega⟩
      · refine ⟨fun l hl => ?_, ?_⟩
        · rcases List.mem_append.mp hl with hl | hl
          · exact ih.1 l hl
          · obtain ⟨n, hs, rfl⟩ := List.mem_map.mp hl
            intro x hx
            rcases List.mem_append.mp ((srt_perm _).mem_iff.mp hx) with hx | hx
            · exact ok.nm o (List.mem_of_getElem? q) x hx
            · rw [List.mem_singleton.mp hx]; exact hn n hs
        · rw [List.length_append, List.length_map, Nat.succ_mul]; omega
section
variable {P : Program} {w : World} {K : PySem.W.Frag} {mg : Str → Option Value} {base : Heap} {T : Tb}
theorem ok_keys_named (c : Code K mg) (G_tupled : FnOk P w K mg base CX0 4 c.tupled.f c.tupled.fd ["value"] (spD T K (A_tup 3))) : FnOk P w K mg base CX0 5 c.keys_named.f c.keys_named.fd ["edit"] (spD T K A_keys_named) := by
  refine pure_ok c.keys_named.F sc_keys_named (fun ds d h => ?_) (fun cdv A' outer s H B vs ds d E hr f tk r hA => ?_)
  · obtain ⟨_, rfl, _⟩ := h; rfl
  · obtain ⟨e, rfl, rfl⟩ := hA
    obtain ⟨v, rfl, rv⟩ := dpAll1 r
    refine ⟨_, (pss_cons (ps_if (pt_cmpR (kIn (K := K) rfl) (pe_ix (kIxT (K := K) rfl) (pv 0) pe_int (fun _ _ => rfl)) (pe_tup (pa_cons (pe_glob (v := .str "opens") (by rfl) c.kOPENS.choose_spec ⟨_, rfl⟩) (pa_cons (pe_glob (v := .str "bars") (by rfl) c.kBARS.choose_spec ⟨_, rfl⟩) pa_nil))) (by rfl)) (pss_one (ps_ret (pe_call G_tupled (hr.mono (by decide)) (by rfl) c.tupled.g c.tupled.F.kp c.tupled.b .nil pass0 (pa_cons (pe_ix (kIxT (K := K) rfl) (pv 0) pe_int (fun _ _ => rfl)) pa_nil)))) pss_nil) (pss_one (ps_ret (pe_ifExp (pt_cmpR op_eq (pe_ix (kIxT (K := K) rfl) (pv 0) pe_int (fun _ _ => rfl)) (pe_glob (v := .str "swap") (by rfl) c.kSWAP.choose_spec ⟨_, rfl⟩) (nomark _)) (pe_call G_tupled (hr.mono (by decide)) (by rfl) c.tupled.g c.tupled.F.kp c.tupled.b .nil pass0 (pa_cons (pe_slice (kSlT (K := K) rfl) (pv 0) (po_some pe_int) po_none) pa_nil)) (pe_tup (pa_cons (pe_ix (kIxT (K := K) rfl) (pv 0) pe_int (fun _ _ => rfl)) pa_nil)))))), fun D q => ?_⟩
    have two : EDA T K (tCons (tC (.str "opens")) (tCons (tC (.str "bars")) tNil)) (start ["edit"] [v]) B [.str "opens", .str "bars"] := eda_cons (ed_str _) (eda_cons (ed_str _) eda_nil)
    cases e with
    | opens l =>
      refine sd_if f tk (et_test ((ed_in (neg := false) (ss := ["opens", "bars"]) (ed_ixT (d := .str "opens") (ed_var rfl rv) (ed_int 0) rfl) (ed_tup two len2) (.inr rfl)).is (e := .bool true) (congrArg PyData.bool (by decide +kernel)))) (fun hb H1 s1 => ?_) (fun hb H1 s1 => ?_)
      · exact sd_ret s1.fz (s1.ok tk) (ed_call (d := dT l) (eda_cons (ed_ixT (d := dT l) (ed_var rfl rv) (ed_int 1) rfl) eda_nil) ⟨dT l, by rw [dep_dT]; decide, rfl, (tup_dT _).symm⟩) fun v' B' H' s' r' => q v' B' H' (s1.trans s') r'
      · cases hb
    | bars l =>
      refine sd_if f tk (et_test ((ed_in (neg := false) (ss := ["opens", "bars"]) (ed_ixT (d := .str "bars") (ed_var rfl rv) (ed_int 0) rfl) (ed_tup two len2) (.inr rfl)).is (e := .bool true) (congrArg PyData.bool (by decide +kernel)))) (fun hb H1 s1 => ?_) (fun hb H1 s1 => ?_)
      · exact sd_ret s1.fz (s1.ok tk) (ed_call (d := dT l) (eda_cons (ed_ixT (d := dT l) (ed_var rfl rv) (ed_int 1) rfl) eda_nil) ⟨dT l, by rw [dep_dT]; decide, rfl, (tup_dT _).symm⟩) fun v' B' H' s' r' => q v' B' H' (s1.trans s') r'
      · cases hb
    | lost x =>
      refine sd_if f tk (et_test ((ed_in (neg := false) (ss := ["opens", "bars"]) (ed_ixT (d := .str "lost") (ed_var rfl rv) (ed_int 0) rfl) (ed_tup two len2) (.inr rfl)).is (e := .bool false) (congrArg PyData.bool (by decide +kernel)))) (fun hb H1 s1 => ?_) (fun hb H1 s1 => ?_)
      · cases hb
      · exact sd_ret s1.fz (s1.ok tk) (ed_if (b := false) (et_test ((ed_eqS (ed_ixT (d := .str "lost") (ed_var rfl rv) (ed_int 0) rfl) (ed_str "swap")).is (congrArg PyData.bool (by decide +kernel)))) (fun z => by cases z) fun _ => (ed_tup (eda_cons (ed_ixT (d := .str x) (ed_var rfl rv) (ed_int 1) rfl) eda_nil) len1).is (by rfl)) fun v' B' H' s' r' => q v' B' H' (s1.trans s') r'
    | left x =>
      refine sd_if f tk (et_test ((ed_in (neg := false) (ss := ["opens", "bars"]) (ed_ixT (d := .str "left") (ed_var rfl rv) (ed_int 0) rfl) (ed_tup two len2) (.inr rfl)).is (e := .bool false) (congrArg PyData.bool (by decide +kernel)))) (fun hb H1 s1 => ?_) (fun hb H1 s1 => ?_)
      · cases hb
      · exact sd_ret s1.fz (s1.ok tk) (ed_if (b := false) (et_test ((ed_eqS (ed_ixT (d := .str "left") (ed_var rfl rv) (ed_int 0) rfl) (ed_str "swap")).is (congrArg PyData.bool (by decide +kernel)))) (fun z => by cases z) fun _ => (ed_tup (eda_cons (ed_ixT (d := .str x) (ed_var rfl rv) (ed_int 1) rfl) eda_nil) len1).is (by rfl)) fun v' B' H' s' r' => q v' B' H' (s1.trans s') r'
    | swap x y =>
      refine sd_if f tk (et_test ((ed_in (neg := false) (ss := ["opens", "bars"]) (ed_ixT (d := .str "swap") (ed_var rfl rv) (ed_int 0) rfl) (ed_tup two len2) (.inr rfl)).is (e := .bool false) (congrArg PyData.bool (by decide +kernel)))) (fun hb H1 s1 => ?_) (fun hb H1 s1 => ?_)
      · cases hb
      · exact sd_ret s1.fz (s1.ok tk) (ed_if (b := true) (et_test ((ed_eqS (ed_ixT (d := .str "swap") (ed_var rfl rv) (ed_int 0) rfl) (ed_str "swap")).is (congrArg PyData.bool (by decide +kernel)))) (fun _ => ed_call (d := dT [x, y]) (eda_cons ((ed_slT (lo := some 1) (hi := none) (ed_var rfl rv) (fun H Q => part_int 1 H Q) (fun H Q => part_no H Q)).is (e := dT [x, y]) (by rfl)) eda_nil) ⟨dT [x, y], by rw [dep_dT]; decide, rfl, (tup_dT _).symm⟩) (fun z => by cases z)) fun v' B' H' s' r' => q v' B' H' (s1.trans s') r'
    | hand x p =>
      refine sd_if f tk (et_test ((ed_in (neg := false) (ss := ["opens", "bars"]) (ed_ixT (d := .str "hand") (ed_var rfl rv) (ed_int 0) rfl) (ed_tup two len2) (.inr rfl)).is (e := .bool false) (congrArg PyData.bool (by decide +kernel)))) (fun hb H1 s1 => ?_) (fun hb H1 s1 => ?_)
      · cases hb
      · exact sd_ret s1.fz (s1.ok tk) (ed_if (b := false) (et_test ((ed_eqS (ed_ixT (d := .str "hand") (ed_var rfl rv) (ed_int 0) rfl) (ed_str "swap")).is (congrArg PyData.bool (by decide +kernel)))) (fun z => by cases z) fun _ => (ed_tup (eda_cons (ed_ixT (d := .str x) (ed_var rfl rv) (ed_int 1) rfl) eda_nil) len1).is (by rfl)) fun v' B' H' s' r' => q v' B' H' (s1.trans s') r'
theorem ok_check_edit (c : Code K mg) (G_keys_of : FnOk P w K mg base CX0 5 c.keys_of.f c.keys_of.fd ["vault"] (spD T K A_keys_of)) (G_keys_named : FnOk P w K mg base CX0 5 c.keys_named.f c.keys_named.fd ["edit"] (spD T K A_keys_named)) : FnOk P w K mg base CX0 6 c.check_edit.f c.check_edit.fd ["vault", "edit"] (spD T K A_check_edit) := by
  refine pure_nx c.check_edit.F sc_check_edit (fun ds d h => ?_) (fun cdv A' outer s H B vs ds d E hr f tk r hA => ?_)
  · obtain ⟨_, _, _, rfl, _⟩ := h; rfl
  · obtain ⟨vt, e, hin, rfl, rfl⟩ := hA
    obtain ⟨v, u, rfl, r1, r2⟩ := DpAll.two r
    refine ⟨_, (pss_cons (ps_set (i := 2) sc_check_edit.nd rfl (Or.inl rfl) (pe_call G_keys_of (hr.mono (by decide)) (by rfl) c.keys_of.g c.keys_of.F.kp c.keys_of.b .nil pass0 (pa_cons (pv 0) pa_nil))) (pss_one (ps_for PassesOwn.never rfl (kPiT (K := K) rfl (kSz (K := K) rfl (pe_call G_keys_named (hr.mono (by decide)) (by rfl) c.keys_named.g c.keys_named.F.kp c.keys_named.b .nil pass0 (pa_cons (pv 1) pa_nil)))) (pg_name (i := 3) sc_check_edit.nd rfl (Or.inl rfl)) (pss_one (ps_if (pt_cmpR (kNin (K := K) rfl) (pv 3) (pv 2) (by rfl)) (pss_one ps_never) pss_nil))))), fun Q q => ?_⟩
    refine sd_asg f tk (ed_call (d := dT vt.1) (eda_cons (ed_var rfl r1) eda_nil) ⟨vt.1, dTT vt.2, rfl, rfl⟩) fun vk B1 H1 s1 rk => ?_
    refine sd_forT (enc := PyData.str) (xs := knm e) s1.fz (s1.ok tk) (ed_call (d := dT (knm e)) (eda_cons (ed_var rfl (Dp.sub s1.sub _ _ r2)) eda_nil) ⟨e, rfl, rfl⟩) fun B2 H2 s2 => ?_
    have s12 := s1.trans s2
    refine ⟨fun i σ' H' => ∃ o3, σ' = [some v, some u, some vk, o3] ∧ St T B2 H2 B2 H', ⟨_, rfl, St.refl s2.fz⟩, (fun i σ' H' ⟨_, _, s⟩ => s.fz), ?_, ?_⟩
    · rintro i x1 v1 σ' H' hx rx ⟨o2, rfl, s⟩
      refine sd_if s.fz (s.ok (s12.ok tk)) (et_test ((ed_in (neg := true) (ss := vt.1) (ed_var rfl rx) (ed_var rfl (Dp.sub s2.sub _ _ rk)) (.inr rfl)).is (by rw [if_pos rfl, decide_eq_true (hin x1 (List.mem_of_getElem? hx))]))) (fun z => by cases z) (fun _ H2 s2 => ⟨_, rfl, s.trans s2⟩)
    · rintro σ' H' ⟨o2, rfl, s⟩
      exact q .non B2 H' (s12.trans s) .non
theorem ok_with_key_more (c : Code K mg) : FnOk P w K mg base CX0 1 c.with_key_more.f c.with_key_more.fd ["sets", "some"] (spD T K A_with_key_more) := by
  refine pure_ok c.with_key_more.F sc_with_key_more (fun ds d h => ?_) (fun cdv A' outer s H B vs ds d E hr f tk r hA => ?_)
  · obtain ⟨_, _, _, _, _, rfl, _⟩ := h; rfl
  · obtain ⟨L, s, ok, hn, hs, rfl, rfl⟩ := hA
    obtain ⟨v, u, rfl, r1, r2⟩ := DpAll.two r
    have hu := hr.u64
    have hu65 := hr.u65
    refine ⟨_, (pss_cons (ps_setLc (i := 2) (own := [("own", 3)]) (g := gName 3) rfl sc_with_key_more.nd rfl rfl (sw_true rfl rfl rfl (by decide +kernel)) (kPiT (K := K) rfl (kSz (K := K) rfl (pv 0))) (blkOk_by (N := ["sets", "some", "found", "own", "name"]) (sc := defScope s_with_key_more) (by decide +kernel)) (fun _ _ _ _ _ => pg_name (i := 3) sc_with_key_more.nd rfl (Or.inr rfl)) (fun _ _ _ _ _ => (pts_one (pt_val (pe_callB (kAny (K := K) rfl rfl) (by rfl) c.m_any (by decide +kernel) (pa_cons (pe_lc (own := [("name", 4)]) (g := gName 4) (tt := tYes) rfl sc_with_key_more.nd (kPiT (K := K) rfl (kSz (K := K) rfl (pv 1))) (blkOk_by (by rfl)) (fun _ _ _ _ _ => pg_name (i := 4) sc_with_key_more.nd rfl (Or.inl rfl)) (fun _ _ _ _ _ => pts_nil) (fun _ _ _ _ _ => (pe_cmpR (kIn (K := K) rfl) (pv 4) (pv 3) (by rfl)))) pa_nil))))) (fun _ _ _ _ _ => (pv 3))) (pss_cons (ps_for PassesOwn.never rfl (kPiT (K := K) rfl (kSz (K := K) rfl (pv 0))) (pg_name (i := 3) sc_with_key_more.nd rfl (Or.inr rfl)) (pss_one (ps_if (pt_cmpR (kNinD (K := K) rfl hu65) (pv 3) (pv 2) (by rfl)) (pss_one (ps_expr (pe_bm PySem.F.plainAttrs_list PySem.F.slot_list_extend PySem.F.type_list_extend mt_extend (pv 2) (pa_cons (pe_lc (own := [("name", 4)]) (g := gName 4) (tt := tYes) rfl sc_with_key_more.nd (kPiT (K := K) rfl (kSz (K := K) rfl (pv 1))) (blkOk_by (N := ["sets", "some", "found", "own", "name"]) (sc := defScope s_with_key_more) (by decide +kernel)) (fun _ _ _ _ _ => pg_name (i := 4) sc_with_key_more.nd rfl (Or.inl rfl)) (fun _ _ _ _ _ => pts_nil) (fun _ _ _ _ _ => (pe_callTy (kTuple (K := K) rfl) (by rfl) c.m_tuple (by decide +kernel) (pa_cons (pe_callB (kSrt (K := K) rfl hu) (by rfl) c.m_sorted (by decide +kernel) (pa_cons (pe_lst (kStar (K := K) rfl (pv 3) (pa_cons (pv 4) pa_nil))) pa_nil)) pa_nil)))) pa_nil)))) pss_nil))) (pss_one (ps_ret (pv 2))))), fun D q => ?_⟩
    refine sd_lcT (enc := dT) (xs := L) (fun o => s.any fun n => decide (n ∈ o)) dT f tk (ed_var rfl r1) (fun _ => rfl) (fun o _ vo B3 sb ro => et_B ((ed_any (bs := s.map fun n => decide (n ∈ o)) ((ed_mapT (enc := PyData.str) (xs := s) (fun n => .bool (decide (n ∈ o))) (ed_var rfl (Dp.sub sb _ _ r2)) (fun _ => rfl)
      fun n _ vn B4 sb4 rn => ed_in (neg := false) (ed_var rfl rn) (ed_var rfl (Dp.sub sb4 _ _ ro)) (.inr rfl)).is (by rw [List.map_map]; rfl))).is (by rw [List.any_map]; rfl))) (fun o _ vo B3 sb ro _ => ed_var rfl ro) fun p B1 H1 B2 H2 s1 m0 => ?_
    have tk1 := s1.ok tk
    refine sd_forT (enc := dT) (xs := L) m0.st.fz (m0.st.ok tk1) (ed_var rfl (Dp.sub (s1.sub.trans m0.st.sub) _ _ r1)) fun B3 H3 s3 => ?_
    refine ⟨fun i σ' H' => ∃ o3 o4 B', σ' = [some v, some u, some (.ref p), o3, o4] ∧ Sub B3 B' ∧ Mkg T K B1 H1 p (((L.take i).foldl (wkS s) (wk0 L s)).map dT) B' H', ?_, ?_, ?_, ?_⟩
    · exact ⟨none, none, B3, rfl, Sub.refl _, m0.step s3⟩
    · rintro i σ' H' ⟨_, _, _, _, sb, m⟩
      exact m.st.fz.sub sb
    · rintro i a v1 σ' H' hx rx ⟨o3, o4, B', rfl, sb, m⟩
      have hi : i < L.length := (List.getElem?_eq_some_iff.mp hx).1
      have inv := wk_inv ok hn i
      have hm : i * s.length ≤ 100 * 100 := Nat.mul_le_mul (by have := ok.n; omega) hs
      have hna := ok.nm a (List.mem_of_getElem? hx)
      obtain ⟨Bp, sp, fp, rp, back⟩ := m.open
      refine sd_if fp (m.st.ok tk1) (et_test ((ed_notInD (ed_var rfl (Dp.sub (sb.trans sp) _ _ rx)) (ed_var rfl rp) (shaped_dT hna) (shaped_dLT inv.1)).is (e := .bool (!decide (a ∈ (L.take i).foldl (wkS s) (wk0 L s)))) ?_)) (fun hb H4 s4 => ?_) (fun hb H4 s4 => ?_)
      · congr 2
        rw [List.any_map, Bool.eq_iff_iff]
        simp only [List.any_eq_true, Function.comp, eqv_dT, decide_eq_true_eq]
        exact ⟨fun ⟨x, hx, e⟩ => e ▸ hx, fun h => ⟨a, h, rfl⟩⟩
      · have hna' : a ∉ (L.take i).foldl (wkS s) (wk0 L s) := by simpa using hb
        have m4 := back H4 s4
        have r2' : Dp K B' u (dT s) := Dp.sub ((s1.sub.trans (m0.st.sub.trans s3.sub)).trans sb) _ _ r2
        refine sd_ext (K := K) (es := (s.map fun n => srt sLt (a ++ [n])).map dT) m4 rfl (by rw [List.length_map, List.length_map, List.length_map, ← big_line]; have := ok.n; omega)
          (fun Q q' => mk_lcT (enc := PyData.str) (xs := s) (fun _ => true) (fun n => dT (srt sLt (a ++ [n]))) m4.st.fz (m4.st.ok tk1) (ed_var rfl r2') (fun _ => rfl) (fun _ _ _ _ _ _ => et_yes) (fun n _ vn B5 sb5 rn _ =>
            (ed_tupleOf (ds := (srt sLt (a ++ [n])).map .str) ((ed_srt ((ed_lst (eda_star (ed_var rfl (Dp.sub (sb.trans sb5) _ _ rx)) (.inr rfl) (eda_cons (ed_var rfl rn) eda_nil)) ?_).is (e := dL (a ++ [n])) ?_) (gd_S _)).is ?_) (.inl rfl))) fun q B5 H5 B6 H6 s5 m5 => q' q B5 H5 B6 H6 s5 ?_) fun B5 H5 sb5 m5 => ?_
        · have := ok.el a (List.mem_of_getElem? hx)
          rw [List.length_append, List.length_map, ← big_line]
          show a.length + 1 ≤ _
          omega
        · unfold dL; rw [List.map_append]; rfl
        · exact congrArg PyData.list (sortD_S _)
        · rw [ft_true] at m5
          rw [List.map_map]
          exact m5
        · refine ⟨_, o4, B5, rfl, sb.trans sb5, ?_⟩
          rw [wk_take hx, wkS_no hna', List.map_append]
          exact m5
      · have hna' : a ∈ (L.take i).foldl (wkS s) (wk0 L s) := by simpa using hb
        refine ⟨_, o4, B', rfl, sb, ?_⟩
        rw [wk_take hx, wkS_yes hna']
        exact back H4 s4
    · rintro σ' H' ⟨o3, o4, B', rfl, sb, m⟩
      rw [List.take_length] at m
      obtain ⟨B2', s2', _, r2'⟩ := m.done
      exact sd_ret s2'.fz (s2'.ok tk1) (ed_var rfl r2') fun v' B' H' s' r' => q v' B' H' ((s1.trans s2').trans s') r'
theorem ok_swapped (c : Code K mg) : FnOk P w K mg base CX0 1 c.swapped.f c.swapped.fd ["some", "one", "other"] (spD T K A_swapped) := by
  refine pure_ok c.swapped.F sc_swapped (fun ds d h => ?_) (fun cdv A' outer s H B vs ds d E hr f tk r hA => ?_)
  · obtain ⟨_, _, _, rfl, _⟩ := h; rfl
  · obtain ⟨s0, x, y, rfl, rfl⟩ := hA
    obtain ⟨v, u, z, rfl, r1, r2, r3⟩ := DpAll.three r
    have hu := hr.u64
    have hu1 : (A'.deeper (PyProof.Rows.envOfC "swapped" (defScope s_swapped) s.heap.objs.size c.swapped.f cdv)).units + 1 < cLine := by have := hr.u64; omega
    cases r2
    cases r3
    refine ⟨_, (pss_cons (ps_set (i := 3) sc_swapped.nd rfl (Or.inr rfl) (pe_disp (pps_cons (pv 1) (pv 2) (pps_cons (pv 2) (pv 1) pps_nil)) (by rfl) (by rfl) (fun z => by cases z) (by decide))) (pss_one (ps_ret (pe_callTy (kTuple (K := K) rfl) (by rfl) c.m_tuple (by decide +kernel) (pa_cons (pe_callB (kSrt (K := K) rfl hu) (by rfl) c.m_sorted (by decide +kernel) (pa_cons (pe_lc (own := [("name", 4)]) (g := gName 4) (tt := tYes) rfl sc_swapped.nd (kPiT (K := K) rfl (kSz (K := K) rfl (pv 0))) (blkOk_by (N := ["some", "one", "other", "table", "name"]) (sc := defScope s_swapped) (by decide +kernel)) (fun _ _ _ _ _ => pg_name (i := 4) sc_swapped.nd rfl (Or.inl rfl)) (fun _ _ _ _ _ => pts_nil) (fun _ _ _ _ _ => (pe_dget2 hu1 (pv 3) (pv 4) (pv 4) ⟨by rfl, by rfl, by rfl, by rfl⟩))) pa_nil)) pa_nil))))), fun D q => ?_⟩
    refine sd_table (x := x) (y := y) f rfl rfl fun p n nB => ?_
    have s1 := St.laid (T := T) (o := .dK (swpK x y)) f n noT_dk
    have hp : upd B p (.dK (swpK x y)) p = some (.dK (swpK x y)) := upd_same
    refine sd_ret s1.fz (s1.ok tk) ((ed_tupleOf (ds := (swp s0 x y).map .str) ((ed_srt ((ed_mapT (enc := PyData.str) (xs := s0) (fun n => .str (swN x y n)) (ed_var rfl (Dp.sub s1.sub _ _ r1)) (fun _ => rfl) (fun n _ vn B3 sb rn => by
      cases rn
      exact ed_get (sb _ _ hp) rfl rfl)).is (e := dL (s0.map (swN x y))) (by unfold dL; rw [List.map_map]; rfl)) (gd_S _)).is (congrArg PyData.list (sortD_S _))) (.inl rfl))) fun v' B' H' s' r' => q v' B' H' (s1.trans s') r'
theorem ok_edited_openers (c : Code K mg) (G_tupled : FnOk P w K mg base CX0 4 c.tupled.f c.tupled.fd ["value"] (spD T K (A_tup 3))) (G_with_key_more : FnOk P w K mg base CX0 1 c.with_key_more.f c.with_key_more.fd ["sets", "some"] (spD T K A_with_key_more)) (G_swapped : FnOk P w K mg base CX0 1 c.swapped.f c.swapped.fd ["some", "one", "other"] (spD T K A_swapped)) : FnOk P w K mg base CX0 5 c.edited_openers.f c.edited_openers.fd ["openers", "edit"] (spD T K A_edited_openers) := by
  refine pure_ok c.edited_openers.F sc_edited_openers (fun ds d h => ?_) (fun cdv A' outer s H B vs ds d E hr f tk r hA => ?_)
  · obtain ⟨_, _, _, _, _, rfl, _⟩ := h; rfl
  · obtain ⟨L, e, ok, hn, hl, rfl, rfl⟩ := hA
    obtain ⟨v, u, rfl, r1, r2⟩ := DpAll.two r
    refine ⟨_, (pss_cons (ps_asg (pe_tup (pa_cons (pe_ix (kIxT (K := K) rfl) (pv 1) pe_int (fun _ _ => rfl)) (pa_cons (pe_call G_tupled (hr.mono (by decide)) (by rfl) c.tupled.g c.tupled.F.kp c.tupled.b .nil pass0 (pa_cons (pe_ix (kIxT (K := K) rfl) (pv 1) pe_int (fun _ _ => rfl)) pa_nil)) pa_nil))) (kTupTg (K := K) rfl rfl (pgs_cons (pg_name (i := 2) sc_edited_openers.nd rfl (Or.inl rfl)) (pgs_cons (pg_name (i := 3) sc_edited_openers.nd rfl (Or.inr rfl)) pgs_nil)))) (pss_cons (ps_if (pt_cmpR op_eq (pv 2) (pe_glob (v := .str "opens") (by rfl) c.kOPENS.choose_spec ⟨_, rfl⟩) (nomark _)) (pss_one (ps_ret (pe_lst (kStar (K := K) rfl (pv 0) (pa_cons (pv 3) pa_nil))))) pss_nil) (pss_cons (ps_if (pt_cmpR op_eq (pv 2) (pe_glob (v := .str "bars") (by rfl) c.kBARS.choose_spec ⟨_, rfl⟩) (nomark _)) (pss_one (ps_ret (pe_call G_with_key_more (hr.mono (by decide)) (by rfl) c.with_key_more.g c.with_key_more.F.kp c.with_key_more.b .nil pass0 (pa_cons (pv 0) (pa_cons (pv 3) pa_nil))))) pss_nil) (pss_cons (ps_if (pt_cmpR op_eq (pv 2) (pe_glob (v := .str "lost") (by rfl) c.kLOST.choose_spec ⟨_, rfl⟩) (nomark _)) (pss_one (ps_ret (pe_lc (own := [("own", 4)]) (g := gName 4) rfl sc_edited_openers.nd (kPiT (K := K) rfl (kSz (K := K) rfl (pv 0))) (blkOk_by (N := ["openers", "edit", "word", "first", "own", "name"]) (sc := defScope s_edited_openers) (by decide +kernel)) (fun _ _ _ _ _ => pg_name (i := 4) sc_edited_openers.nd rfl (Or.inl rfl)) (fun _ _ _ _ _ => (pts_one (pt_cmpR (kNin (K := K) rfl) (pv 3) (pv 4) (by rfl)))) (fun _ _ _ _ _ => (pv 4))))) pss_nil) (pss_cons (ps_if (pt_cmpR op_eq (pv 2) (pe_glob (v := .str "left") (by rfl) c.kLEFT.choose_spec ⟨_, rfl⟩) (nomark _)) (pss_one (ps_ret (pe_lc (own := [("own", 4)]) (g := gName 4) (tt := tYes) rfl sc_edited_openers.nd (kPiT (K := K) rfl (kSz (K := K) rfl (pv 0))) (blkOk_by (N := ["openers", "edit", "word", "first", "own", "name"]) (sc := defScope s_edited_openers) (by decide +kernel)) (fun _ _ _ _ _ => pg_name (i := 4) sc_edited_openers.nd rfl (Or.inl rfl)) (fun _ _ _ _ _ => pts_nil) (fun _ _ _ _ _ => (pe_callTy (kTuple (K := K) rfl) (by rfl) c.m_tuple (by decide +kernel) (pa_cons (pe_lc (own := [("name", 5)]) (g := gName 5) rfl sc_edited_openers.nd (kPiT (K := K) rfl (kSz (K := K) rfl (pv 4))) (blkOk_by (by rfl)) (fun _ _ _ _ _ => pg_name (i := 5) sc_edited_openers.nd rfl (Or.inl rfl)) (fun _ _ _ _ _ => (pts_one (pt_cmpR op_ne (pv 5) (pv 3) (nomark _)))) (fun _ _ _ _ _ => (pv 5))) pa_nil)))))) pss_nil) (pss_one (ps_ret (pe_ifExp (pt_cmpR op_eq (pv 2) (pe_glob (v := .str "swap") (by rfl) c.kSWAP.choose_spec ⟨_, rfl⟩) (nomark _)) (pe_lc (own := [("own", 4)]) (g := gName 4) (tt := tYes) rfl sc_edited_openers.nd (kPiT (K := K) rfl (kSz (K := K) rfl (pv 0))) (blkOk_by (N := ["openers", "edit", "word", "first", "own", "name"]) (sc := defScope s_edited_openers) (by decide +kernel)) (fun _ _ _ _ _ => pg_name (i := 4) sc_edited_openers.nd rfl (Or.inl rfl)) (fun _ _ _ _ _ => pts_nil) (fun _ _ _ _ _ => (pe_call G_swapped (hr.mono (by decide)) (by rfl) c.swapped.g c.swapped.F.kp c.swapped.b .nil pass0 (pa_cons (pv 4) (pa_cons (pv 3) (pa_cons (pe_ix (kIxT (K := K) rfl) (pv 1) (pe_un un_neg pe_int) (fun _ _ => rfl)) pa_nil)))))) (pe_callTy (kList (K := K) rfl) (by rfl) c.m_list (by decide +kernel) (pa_cons (pv 0) pa_nil)))))))))), fun D q => ?_⟩
    cases e with
    | opens l =>
      refine sd_asg2 (d := .str "opens") (e := dT l) f tk (ed_tup (eda_cons (ed_ixT (d := .str "opens") (ed_var rfl r2) (ed_int 0) rfl) (eda_cons (ed_call (d := dT l) (eda_cons (ed_ixT (d := dT l) (ed_var rfl r2) (ed_int 1) rfl) eda_nil) ⟨dT l, by rw [dep_dT]; decide, rfl, (tup_dT _).symm⟩) eda_nil)) len2) fun vw vf B0 H0 s0 rw rf => ?_
      have ss : St T B H B0 H0 := s0
      have r1' := Dp.sub s0.sub _ _ r1
      have r2' := Dp.sub s0.sub _ _ r2
      clear s0
      refine sd_if ss.fz (ss.ok tk) (et_test ((ed_eqS (ed_var rfl rw) (ed_str "opens")).is (e := .bool true) (congrArg PyData.bool (by decide +kernel)))) (fun _ H1 s1 => ?_) (fun z => by cases z)
      have ss := ss.trans s1
      refine sd_ret ss.fz (ss.ok tk) ((ed_lst (eda_star (ed_var rfl r1') (.inr rfl) (eda_cons (ed_var rfl rf) eda_nil)) (by rw [List.length_append, List.length_map, ← big_line]; have := ok.n; show L.length + 1 ≤ _; omega)).is (by unfold edO dLT; rw [List.map_append]; rfl)) fun v' B' H' s' r' => q v' B' H' (ss.trans s') r'
    | bars l =>
      refine sd_asg2 (d := .str "bars") (e := dT l) f tk (ed_tup (eda_cons (ed_ixT (d := .str "bars") (ed_var rfl r2) (ed_int 0) rfl) (eda_cons (ed_call (d := dT l) (eda_cons (ed_ixT (d := dT l) (ed_var rfl r2) (ed_int 1) rfl) eda_nil) ⟨dT l, by rw [dep_dT]; decide, rfl, (tup_dT _).symm⟩) eda_nil)) len2) fun vw vf B0 H0 s0 rw rf => ?_
      have ss : St T B H B0 H0 := s0
      have r1' := Dp.sub s0.sub _ _ r1
      have r2' := Dp.sub s0.sub _ _ r2
      clear s0
      refine sd_if ss.fz (ss.ok tk) (et_test ((ed_eqS (ed_var rfl rw) (ed_str "opens")).is (e := .bool false) (congrArg PyData.bool (by decide +kernel)))) (fun z => by cases z) (fun _ H1 s1 => ?_)
      have ss := ss.trans s1
      clear s1
      refine sd_if ss.fz (ss.ok tk) (et_test ((ed_eqS (ed_var rfl rw) (ed_str "bars")).is (e := .bool true) (congrArg PyData.bool (by decide +kernel)))) (fun _ H1 s1 => ?_) (fun z => by cases z)
      have ss := ss.trans s1
      refine sd_ret ss.fz (ss.ok tk) (ed_call (eda_cons (ed_var rfl r1') (eda_cons (ed_var rfl rf) eda_nil)) ⟨L, l, ok, hn, hl, rfl, rfl⟩) fun v' B' H' s' r' => q v' B' H' (ss.trans s') r'
    | lost x =>
      refine sd_asg2 (d := .str "lost") (e := .str x) f tk (ed_tup (eda_cons (ed_ixT (d := .str "lost") (ed_var rfl r2) (ed_int 0) rfl) (eda_cons (ed_call (d := .str x) (eda_cons (ed_ixT (d := .str x) (ed_var rfl r2) (ed_int 1) rfl) eda_nil) ⟨.str x, by simp [PyData.depth], rfl, (tup_dS _).symm⟩) eda_nil)) len2) fun vw vf B0 H0 s0 rw rf => ?_
      have ss : St T B H B0 H0 := s0
      have r1' := Dp.sub s0.sub _ _ r1
      have r2' := Dp.sub s0.sub _ _ r2
      clear s0
      refine sd_if ss.fz (ss.ok tk) (et_test ((ed_eqS (ed_var rfl rw) (ed_str "opens")).is (e := .bool false) (congrArg PyData.bool (by decide +kernel)))) (fun z => by cases z) (fun _ H1 s1 => ?_)
      have ss := ss.trans s1
      clear s1
      refine sd_if ss.fz (ss.ok tk) (et_test ((ed_eqS (ed_var rfl rw) (ed_str "bars")).is (e := .bool false) (congrArg PyData.bool (by decide +kernel)))) (fun z => by cases z) (fun _ H1 s1 => ?_)
      have ss := ss.trans s1
      clear s1
      refine sd_if ss.fz (ss.ok tk) (et_test ((ed_eqS (ed_var rfl rw) (ed_str "lost")).is (e := .bool true) (congrArg PyData.bool (by decide +kernel)))) (fun _ H1 s1 => ?_) (fun z => by cases z)
      have ss := ss.trans s1
      refine sd_ret ss.fz (ss.ok tk) (ed_filT (enc := dT) (xs := L) (fun o => !decide (x ∈ o)) (ed_var rfl r1') (fun _ => rfl) (fun a _ va B3 sb ra => et_test ((ed_in (neg := true) (ss := a) (ed_var rfl (Dp.sub sb _ _ rf)) (ed_var rfl ra) (.inr rfl)).is (by rw [if_pos rfl]))) (fun a _ va B3 sb ra _ => ed_var rfl ra)) fun v' B' H' s' r' => q v' B' H' (ss.trans s') r'
    | left x =>
      refine sd_asg2 (d := .str "left") (e := .str x) f tk (ed_tup (eda_cons (ed_ixT (d := .str "left") (ed_var rfl r2) (ed_int 0) rfl) (eda_cons (ed_call (d := .str x) (eda_cons (ed_ixT (d := .str x) (ed_var rfl r2) (ed_int 1) rfl) eda_nil) ⟨.str x, by simp [PyData.depth], rfl, (tup_dS _).symm⟩) eda_nil)) len2) fun vw vf B0 H0 s0 rw rf => ?_
      have ss : St T B H B0 H0 := s0
      have r1' := Dp.sub s0.sub _ _ r1
      have r2' := Dp.sub s0.sub _ _ r2
      clear s0
      refine sd_if ss.fz (ss.ok tk) (et_test ((ed_eqS (ed_var rfl rw) (ed_str "opens")).is (e := .bool false) (congrArg PyData.bool (by decide +kernel)))) (fun z => by cases z) (fun _ H1 s1 => ?_)
      have ss := ss.trans s1
      clear s1
      refine sd_if ss.fz (ss.ok tk) (et_test ((ed_eqS (ed_var rfl rw) (ed_str "bars")).is (e := .bool false) (congrArg PyData.bool (by decide +kernel)))) (fun z => by cases z) (fun _ H1 s1 => ?_)
      have ss := ss.trans s1
      clear s1
      refine sd_if ss.fz (ss.ok tk) (et_test ((ed_eqS (ed_var rfl rw) (ed_str "lost")).is (e := .bool false) (congrArg PyData.bool (by decide +kernel)))) (fun z => by cases z) (fun _ H1 s1 => ?_)
      have ss := ss.trans s1
      clear s1
      refine sd_if ss.fz (ss.ok tk) (et_test ((ed_eqS (ed_var rfl rw) (ed_str "left")).is (e := .bool true) (congrArg PyData.bool (by decide +kernel)))) (fun _ H1 s1 => ?_) (fun z => by cases z)
      have ss := ss.trans s1
      refine sd_ret ss.fz (ss.ok tk) ((ed_mapT (enc := dT) (xs := L) (fun o => dT (o.filter fun n => !decide (n = x))) (ed_var rfl r1') (fun _ => rfl) (fun a _ va B3 sb ra => ed_tupleOf (ds := (a.filter fun n => !decide (n = x)).map .str) (ed_filT (enc := PyData.str) (xs := a) (fun n => !decide (n = x)) (ed_var rfl ra) (fun _ => rfl)
        (fun n _ vn B4 sb4 rn => et_test (ed_neS (ed_var rfl rn) (ed_var rfl (Dp.sub (sb.trans sb4) _ _ rf)))) (fun n _ vn B4 sb4 rn _ => ed_var rfl rn)) (.inl rfl))).is (by unfold edO dLT; rw [List.map_map]; rfl)) fun v' B' H' s' r' => q v' B' H' (ss.trans s') r'
    | swap x y =>
      refine sd_asg2 (d := .str "swap") (e := .str x) f tk (ed_tup (eda_cons (ed_ixT (d := .str "swap") (ed_var rfl r2) (ed_int 0) rfl) (eda_cons (ed_call (d := .str x) (eda_cons (ed_ixT (d := .str x) (ed_var rfl r2) (ed_int 1) rfl) eda_nil) ⟨.str x, by simp [PyData.depth], rfl, (tup_dS _).symm⟩) eda_nil)) len2) fun vw vf B0 H0 s0 rw rf => ?_
      have ss : St T B H B0 H0 := s0
      have r1' := Dp.sub s0.sub _ _ r1
      have r2' := Dp.sub s0.sub _ _ r2
      clear s0
      refine sd_if ss.fz (ss.ok tk) (et_test ((ed_eqS (ed_var rfl rw) (ed_str "opens")).is (e := .bool false) (congrArg PyData.bool (by decide +kernel)))) (fun z => by cases z) (fun _ H1 s1 => ?_)
      have ss := ss.trans s1
      clear s1
      refine sd_if ss.fz (ss.ok tk) (et_test ((ed_eqS (ed_var rfl rw) (ed_str "bars")).is (e := .bool false) (congrArg PyData.bool (by decide +kernel)))) (fun z => by cases z) (fun _ H1 s1 => ?_)
      have ss := ss.trans s1
      clear s1
      refine sd_if ss.fz (ss.ok tk) (et_test ((ed_eqS (ed_var rfl rw) (ed_str "lost")).is (e := .bool false) (congrArg PyData.bool (by decide +kernel)))) (fun z => by cases z) (fun _ H1 s1 => ?_)
      have ss := ss.trans s1
      clear s1
      refine sd_if ss.fz (ss.ok tk) (et_test ((ed_eqS (ed_var rfl rw) (ed_str "left")).is (e := .bool false) (congrArg PyData.bool (by decide +kernel)))) (fun z => by cases z) (fun _ H1 s1 => ?_)
      have ss := ss.trans s1
      clear s1
      refine sd_ret ss.fz (ss.ok tk) (ed_if (b := true) (et_test ((ed_eqS (ed_var rfl rw) (ed_str "swap")).is (congrArg PyData.bool (by decide +kernel)))) (fun _ => (ed_mapT (enc := dT) (xs := L) (fun o => dT (swp o x y)) (ed_var rfl r1') (fun _ => rfl) (fun a _ va B3 sb ra => ed_call (eda_cons (ed_var rfl ra) (eda_cons (ed_var rfl (Dp.sub sb _ _ rf)) (eda_cons (ed_ixT (d := .str y) (ed_var rfl (Dp.sub sb _ _ r2')) (ed_negI 1) rfl) eda_nil))) ⟨a, x, y, rfl, rfl⟩)).is (by unfold edO dLT; rw [List.map_map]; rfl)) (fun z => by cases z)) fun v' B' H' s' r' => q v' B' H' (ss.trans s') r'
    | hand x p =>
      refine sd_asg2 (d := .str "hand") (e := .str x) f tk (ed_tup (eda_cons (ed_ixT (d := .str "hand") (ed_var rfl r2) (ed_int 0) rfl) (eda_cons (ed_call (d := .str x) (eda_cons (ed_ixT (d := .str x) (ed_var rfl r2) (ed_int 1) rfl) eda_nil) ⟨.str x, by simp [PyData.depth], rfl, (tup_dS _).symm⟩) eda_nil)) len2) fun vw vf B0 H0 s0 rw rf => ?_
      have ss : St T B H B0 H0 := s0
      have r1' := Dp.sub s0.sub _ _ r1
      have r2' := Dp.sub s0.sub _ _ r2
      clear s0
      refine sd_if ss.fz (ss.ok tk) (et_test ((ed_eqS (ed_var rfl rw) (ed_str "opens")).is (e := .bool false) (congrArg PyData.bool (by decide +kernel)))) (fun z => by cases z) (fun _ H1 s1 => ?_)
      have ss := ss.trans s1
      clear s1
      refine sd_if ss.fz (ss.ok tk) (et_test ((ed_eqS (ed_var rfl rw) (ed_str "bars")).is (e := .bool false) (congrArg PyData.bool (by decide +kernel)))) (fun z => by cases z) (fun _ H1 s1 => ?_)
      have ss := ss.trans s1
      clear s1
      refine sd_if ss.fz (ss.ok tk) (et_test ((ed_eqS (ed_var rfl rw) (ed_str "lost")).is (e := .bool false) (congrArg PyData.bool (by decide +kernel)))) (fun z => by cases z) (fun _ H1 s1 => ?_)
      have ss := ss.trans s1
      clear s1
      refine sd_if ss.fz (ss.ok tk) (et_test ((ed_eqS (ed_var rfl rw) (ed_str "left")).is (e := .bool false) (congrArg PyData.bool (by decide +kernel)))) (fun z => by cases z) (fun _ H1 s1 => ?_)
      have ss := ss.trans s1
      clear s1
      refine sd_ret ss.fz (ss.ok tk) (ed_if (b := false) (et_test ((ed_eqS (ed_var rfl rw) (ed_str "swap")).is (congrArg PyData.bool (by decide +kernel)))) (fun z => by cases z) (fun _ => ed_listOf (ds := L.map dT) (ed_var rfl r1') (.inr rfl))) fun v' B' H' s' r' => q v' B' H' (ss.trans s') r'
theorem wkm_mem {L : Kss} {s : Ks} : ∀ l ∈ wkm L s, l ∈ L ∨ ∃ o ∈ L, ∃ n ∈ s, l = srt sLt (o ++ [n]) := by
  have : ∀ (M : Kss) (F : Kss), (∀ o ∈ M, o ∈ L) → (∀ l ∈ F, l ∈ L ∨ ∃ o ∈ L, ∃ n ∈ s, l = srt sLt (o ++ [n])) → ∀ l ∈ M.foldl (wkS s) F, l ∈ L ∨ ∃ o ∈ L, ∃ n ∈ s, l = srt sLt (o ++ [n]) := by
    intro M
    induction M with
    | nil => intro F _ h; exact h
    | cons a M ih =>
      intro F hM h
      refine ih _ (fun o ho => hM o (List.mem_cons_of_mem _ ho)) ?_
      unfold wkS
      split
      · exact h
      · intro l hl
        rcases List.mem_append.mp hl with hl | hl
        · exact h l hl
        · obtain ⟨n, hn, rfl⟩ := List.mem_map.mp hl
          exact .inr ⟨a, hM a List.mem_cons_self, n, hn, rfl⟩
  exact this L _ (fun o h => h) fun l hl => .inl (List.mem_filter.mp hl).1
theorem swN_mem {ks : Ks} {x y n : Str} (hx : x ∈ ks) (hy : y ∈ ks) (hn : n ∈ ks) : swN x y n ∈ ks := by
  unfold swN
  split
  · exact hx
  · split
    · exact hy
    · exact hn
theorem edO_in {ks : Ks} {L : Kss} {e : Ed} (h : InK ks L) (he : ∀ x ∈ knm e, x ∈ ks) : InK ks (edO L e) := by
  intro l hl x hx
  cases e with
  | opens m =>
    rcases List.mem_append.mp hl with hl | hl
    · exact h l hl x hx
    · rw [List.mem_singleton.mp hl] at hx; exact he x hx
  | bars m =>
    rcases wkm_mem l hl with hl | ⟨o, ho, n, hn, rfl⟩
    · exact h l hl x hx
    · rcases List.mem_append.mp ((srt_perm _).mem_iff.mp hx) with hx | hx
      · exact h o ho x hx
      · rw [List.mem_singleton.mp hx]; exact he n hn
  | lost m => exact h l (List.mem_filter.mp hl).1 x hx
  | left m =>
    obtain ⟨o, ho, rfl⟩ := List.mem_map.mp hl
    exact h o ho x (List.mem_filter.mp hx).1
  | swap a b =>
    obtain ⟨o, ho, rfl⟩ := List.mem_map.mp hl
    obtain ⟨n, hn, rfl⟩ := List.mem_map.mp ((srt_perm _).mem_iff.mp hx)
    exact swN_mem (he a (by simp [knm])) (he b (by simp [knm])) (h o ho n hn)
  | hand a b => exact h l hl x hx
theorem edO_size {L : Kss} {e : Ed} (ok : Okk L) (hn : Nms (knm e)) (hl : (knm e).length ≤ 5) : (edO L e).length ≤ 1000 ∧ ∀ l ∈ edO L e, l.length ≤ 1000 := by
  have h1 := ok.n
  have h2 : ∀ l ∈ L, l.length ≤ 1000 := fun l h => Nat.le_trans (ok.el l h) (by decide)
  cases e with
  | opens m =>
    refine ⟨by show (L ++ [m]).length ≤ _; rw [List.length_append]; show L.length + 1 ≤ _; omega, fun l hl' => ?_⟩
    rcases List.mem_append.mp hl' with h | h
    · exact h2 l h
    · rw [List.mem_singleton.mp h]; exact Nat.le_trans hl (by decide)
  | bars m =>
    have hl : m.length ≤ 5 := hl
    refine ⟨?_, fun l hl' => ?_⟩
    · have := (wk_inv ok hn L.length).2
      rw [List.take_length] at this
      have h3 : L.length * m.length ≤ 100 * 5 := Nat.mul_le_mul h1 hl
      have e : knm (.bars m) = m := rfl
      rw [e] at this
      show (L.foldl (wkS m) (wk0 L m)).length ≤ _
      omega
    · rcases wkm_mem l hl' with h | ⟨o, ho, n, _, rfl⟩
      · exact h2 l h
      · rw [(srt_perm _).length_eq, List.length_append]
        have := ok.el o ho
        show o.length + 1 ≤ _
        omega
  | lost m => exact ⟨Nat.le_trans (List.length_filter_le _ _) (by omega), fun l h => h2 l (List.mem_filter.mp h).1⟩
  | left m =>
    refine ⟨by show (L.map _).length ≤ _; rw [List.length_map]; omega, fun l h => ?_⟩
    obtain ⟨o, ho, rfl⟩ := List.mem_map.mp h
    exact Nat.le_trans (List.length_filter_le _ _) (h2 o ho)
  | swap a b =>
    refine ⟨by show (L.map _).length ≤ _; rw [List.length_map]; omega, fun l h => ?_⟩
    obtain ⟨o, ho, rfl⟩ := List.mem_map.mp h
    show (srt sLt _).length ≤ _
    rw [(srt_perm _).length_eq, List.length_map]
    exact h2 o ho
  | hand a b => exact ⟨by show L.length ≤ _; omega, h2⟩
theorem ok_edited (c : Code K mg) (G_check_edit : FnOk P w K mg base CX0 6 c.check_edit.f c.check_edit.fd ["vault", "edit"] (spD T K A_check_edit)) (G_tupled : FnOk P w K mg base CX0 4 c.tupled.f c.tupled.fd ["value"] (spD T K (A_tup 3))) (G_vault_of : FnOk P w K mg base CX0 6 c.vault_of.f c.vault_of.fd ["keys", "sets"] (spD T K A_vault_of)) (G_edited_openers : FnOk P w K mg base CX0 5 c.edited_openers.f c.edited_openers.fd ["openers", "edit"] (spD T K A_edited_openers)) : FnOk P w K mg base CX0 7 c.edited.f c.edited.fd ["vault", "holders", "edit"] (spD T K A_edited) := by
  refine pure_ok c.edited.F sc_edited (fun ds d h => ?_) (fun cdv A' outer s H B vs ds d E hr f tk r hA => ?_)
  · obtain ⟨_, _, _, _, _, _, _, _, rfl, _⟩ := h; rfl
  · obtain ⟨vt, h0, e, W, hin, ok, hk, hl, rfl, rfl⟩ := hA
    obtain ⟨v, u, z, rfl, r1, r2, r3⟩ := DpAll.three r
    refine ⟨_, (pss_cons (ps_expr (pe_call G_check_edit (hr.mono (by decide)) (by rfl) c.check_edit.g c.check_edit.F.kp c.check_edit.b .nil pass0 (pa_cons (pv 0) (pa_cons (pv 2) pa_nil)))) (pss_cons (ps_asg (pe_call G_tupled (hr.mono (by decide)) (by rfl) c.tupled.g c.tupled.F.kp c.tupled.b .nil pass0 (pa_cons (pv 0) pa_nil)) (kTupTg (K := K) rfl rfl (pgs_cons (pg_name (i := 3) sc_edited.nd rfl (Or.inl rfl)) (pgs_cons (pg_name (i := 4) sc_edited.nd rfl (Or.inl rfl)) pgs_nil)))) (pss_cons (ps_set (i := 5) sc_edited.nd rfl (Or.inl rfl) (pe_call G_tupled (hr.mono (by decide)) (by rfl) c.tupled.g c.tupled.F.kp c.tupled.b .nil pass0 (pa_cons (pv 1) pa_nil))) (pss_cons (ps_if (pt_cmpR op_eq (pe_ix (kIxT (K := K) rfl) (pv 2) pe_int (fun _ _ => rfl)) (pe_glob (v := .str "hand") (by rfl) c.kHAND.choose_spec ⟨_, rfl⟩) (nomark _)) (pss_one (ps_set (i := 5) sc_edited.nd rfl (Or.inl rfl) (pe_callTy (kTuple (K := K) rfl) (by rfl) c.m_tuple (by decide +kernel) (pa_cons (pe_lc (own := [("name", 6), ("own", 7)]) (g := gPair K 6 7) (tt := tYes) rfl sc_edited.nd (kPiZ (K := K) rfl (by rfl) c.m_zip (pa_cons (pv 3) (pa_cons (kSz (K := K) rfl (pv 5)) pa_nil))) (blkOk_by (N := ["vault", "holders", "edit", "keys", "openers", "found", "name", "own"]) (sc := defScope s_edited) (by decide +kernel)) (fun _ _ _ _ _ => kTupTg (K := K) rfl rfl (pgs_cons (pg_name (i := 6) sc_edited.nd rfl (Or.inl rfl)) (pgs_cons (pg_name (i := 7) sc_edited.nd rfl (Or.inl rfl)) pgs_nil))) (fun _ _ _ _ _ => pts_nil) (fun _ _ _ _ _ => (pe_ifExp (pt_cmpR op_eq (pv 6) (pe_ix (kIxT (K := K) rfl) (pv 2) pe_int (fun _ _ => rfl)) (nomark _)) (pe_ix (kIxT (K := K) rfl) (pv 2) (pe_un un_neg pe_int) (fun _ _ => rfl)) (pv 7)))) pa_nil)))) pss_nil) (pss_one (ps_ret (pe_tup (pa_cons (pe_call G_vault_of (hr.mono (by decide)) (by rfl) c.vault_of.g c.vault_of.F.kp c.vault_of.b .nil pass0 (pa_cons (pv 3) (pa_cons (pe_callTy (kTuple (K := K) rfl) (by rfl) c.m_tuple (by decide +kernel) (pa_cons (pe_call G_edited_openers (hr.mono (by decide)) (by rfl) c.edited_openers.g c.edited_openers.F.kp c.edited_openers.b .nil pass0 (pa_cons (pv 4) (pa_cons (pv 2) pa_nil))) pa_nil)) pa_nil))) (pa_cons (pv 5) pa_nil))))))))), fun D q => ?_⟩
    refine sd_drop f tk (ed_call (d := .none) (eda_cons (ed_var rfl r1) (eda_cons (ed_var rfl r3) eda_nil)) ⟨vt, e, hk, rfl, rfl⟩) fun B1 H1 s1 => ?_
    refine sd_asg2 (d := dT vt.1) (e := dTT vt.2) s1.fz (s1.ok tk) (ed_call (d := dV vt) (eda_cons (ed_var rfl (Dp.sub s1.sub _ _ r1)) eda_nil) ⟨dV vt, dep_dV _, rfl, (tup_dV _).symm⟩) fun vk vo B2 H2 s2 rk ro => ?_
    have s12 := s1.trans s2
    refine sd_asg s2.fz (s12.ok tk) (ed_call (d := dT h0) (eda_cons (ed_var rfl (Dp.sub s12.sub _ _ r2)) eda_nil) ⟨dT h0, by rw [dep_dT]; decide, rfl, (tup_dT _).symm⟩) fun vf B3 H3 s3 rf => ?_
    have s123 := s12.trans s3
    have r3' := Dp.sub s123.sub _ _ r3
    have hn : Nms (knm e) := fun x hx => W.nm x (hk x hx)
    have sz := edO_size (e := e) ok hn hl
    cases e with
    | opens l =>
      refine sd_if s3.fz (s123.ok tk) (et_test ((ed_eqS (ed_ixT (d := .str "opens") (ed_var rfl r3') (ed_int 0) rfl) (ed_str "hand")).is (e := .bool false) (congrArg PyData.bool (by decide +kernel)))) (fun z => by cases z) (fun _ H4 s4 => ?_)
      have s1234 := s123.trans s4
      exact sd_ret s1234.fz (s1234.ok tk) (ed_tup (eda_cons (ed_call (d := dV (leastV vt.1 (edO vt.2 (.opens l)))) (eda_cons (ed_var rfl (Dp.sub s3.sub _ _ rk)) (eda_cons (ed_tupleOf (ds := (edO vt.2 (.opens l)).map dT) (ed_call (d := dLT (edO vt.2 (.opens l))) (eda_cons (ed_var rfl (Dp.sub s3.sub _ _ ro)) (eda_cons (ed_var rfl (Dp.sub s1234.sub _ _ r3)) eda_nil)) ⟨vt.2, (.opens l), ok, hn, by omega, rfl, rfl⟩) (.inl rfl)) eda_nil))
        ⟨vt.1, edO vt.2 (.opens l), W, edO_in hin hk, sz.1, sz.2, rfl, rfl⟩) (eda_cons (ed_var rfl rf) eda_nil)) len2) fun v' B' H' s' r' => q v' B' H' (s1234.trans s') r'
    | bars l =>
      refine sd_if s3.fz (s123.ok tk) (et_test ((ed_eqS (ed_ixT (d := .str "bars") (ed_var rfl r3') (ed_int 0) rfl) (ed_str "hand")).is (e := .bool false) (congrArg PyData.bool (by decide +kernel)))) (fun z => by cases z) (fun _ H4 s4 => ?_)
      have s1234 := s123.trans s4
      exact sd_ret s1234.fz (s1234.ok tk) (ed_tup (eda_cons (ed_call (d := dV (leastV vt.1 (edO vt.2 (.bars l)))) (eda_cons (ed_var rfl (Dp.sub s3.sub _ _ rk)) (eda_cons (ed_tupleOf (ds := (edO vt.2 (.bars l)).map dT) (ed_call (d := dLT (edO vt.2 (.bars l))) (eda_cons (ed_var rfl (Dp.sub s3.sub _ _ ro)) (eda_cons (ed_var rfl (Dp.sub s1234.sub _ _ r3)) eda_nil)) ⟨vt.2, (.bars l), ok, hn, by omega, rfl, rfl⟩) (.inl rfl)) eda_nil))
        ⟨vt.1, edO vt.2 (.bars l), W, edO_in hin hk, sz.1, sz.2, rfl, rfl⟩) (eda_cons (ed_var rfl rf) eda_nil)) len2) fun v' B' H' s' r' => q v' B' H' (s1234.trans s') r'
    | lost x =>
      refine sd_if s3.fz (s123.ok tk) (et_test ((ed_eqS (ed_ixT (d := .str "lost") (ed_var rfl r3') (ed_int 0) rfl) (ed_str "hand")).is (e := .bool false) (congrArg PyData.bool (by decide +kernel)))) (fun z => by cases z) (fun _ H4 s4 => ?_)
      have s1234 := s123.trans s4
      exact sd_ret s1234.fz (s1234.ok tk) (ed_tup (eda_cons (ed_call (d := dV (leastV vt.1 (edO vt.2 (.lost x)))) (eda_cons (ed_var rfl (Dp.sub s3.sub _ _ rk)) (eda_cons (ed_tupleOf (ds := (edO vt.2 (.lost x)).map dT) (ed_call (d := dLT (edO vt.2 (.lost x))) (eda_cons (ed_var rfl (Dp.sub s3.sub _ _ ro)) (eda_cons (ed_var rfl (Dp.sub s1234.sub _ _ r3)) eda_nil)) ⟨vt.2, (.lost x), ok, hn, by omega, rfl, rfl⟩) (.inl rfl)) eda_nil))
        ⟨vt.1, edO vt.2 (.lost x), W, edO_in hin hk, sz.1, sz.2, rfl, rfl⟩) (eda_cons (ed_var rfl rf) eda_nil)) len2) fun v' B' H' s' r' => q v' B' H' (s1234.trans s') r'
    | left x =>
      refine sd_if s3.fz (s123.ok tk) (et_test ((ed_eqS (ed_ixT (d := .str "left") (ed_var rfl r3') (ed_int 0) rfl) (ed_str "hand")).is (e := .bool false) (congrArg PyData.bool (by decide +kernel)))) (fun z => by cases z) (fun _ H4 s4 => ?_)
      have s1234 := s123.trans s4
      exact sd_ret s1234.fz (s1234.ok tk) (ed_tup (eda_cons (ed_call (d := dV (leastV vt.1 (edO vt.2 (.left x)))) (eda_cons (ed_var rfl (Dp.sub s3.sub _ _ rk)) (eda_cons (ed_tupleOf (ds := (edO vt.2 (.left x)).map dT) (ed_call (d := dLT (edO vt.2 (.left x))) (eda_cons (ed_var rfl (Dp.sub s3.sub _ _ ro)) (eda_cons (ed_var rfl (Dp.sub s1234.sub _ _ r3)) eda_nil)) ⟨vt.2, (.left x), ok, hn, by omega, rfl, rfl⟩) (.inl rfl)) eda_nil))
        ⟨vt.1, edO vt.2 (.left x), W, edO_in hin hk, sz.1, sz.2, rfl, rfl⟩) (eda_cons (ed_var rfl rf) eda_nil)) len2) fun v' B' H' s' r' => q v' B' H' (s1234.trans s') r'
    | swap x y =>
      refine sd_if s3.fz (s123.ok tk) (et_test ((ed_eqS (ed_ixT (d := .str "swap") (ed_var rfl r3') (ed_int 0) rfl) (ed_str "hand")).is (e := .bool false) (congrArg PyData.bool (by decide +kernel)))) (fun z => by cases z) (fun _ H4 s4 => ?_)
      have s1234 := s123.trans s4
      exact sd_ret s1234.fz (s1234.ok tk) (ed_tup (eda_cons (ed_call (d := dV (leastV vt.1 (edO vt.2 (.swap x y)))) (eda_cons (ed_var rfl (Dp.sub s3.sub _ _ rk)) (eda_cons (ed_tupleOf (ds := (edO vt.2 (.swap x y)).map dT) (ed_call (d := dLT (edO vt.2 (.swap x y))) (eda_cons (ed_var rfl (Dp.sub s3.sub _ _ ro)) (eda_cons (ed_var rfl (Dp.sub s1234.sub _ _ r3)) eda_nil)) ⟨vt.2, (.swap x y), ok, hn, by omega, rfl, rfl⟩) (.inl rfl)) eda_nil))
        ⟨vt.1, edO vt.2 (.swap x y), W, edO_in hin hk, sz.1, sz.2, rfl, rfl⟩) (eda_cons (ed_var rfl rf) eda_nil)) len2) fun v' B' H' s' r' => q v' B' H' (s1234.trans s') r'
    | hand x p =>
      refine sd_if s3.fz (s123.ok tk) (et_test ((ed_eqS (ed_ixT (d := .str "hand") (ed_var rfl r3') (ed_int 0) rfl) (ed_str "hand")).is (e := .bool true) (congrArg PyData.bool (by decide +kernel)))) (fun _ H4 s4 => ?_) (fun z => by cases z)
      have s1234 := s123.trans s4
      refine sd_asg s1234.fz (s1234.ok tk) ((ed_tupleOf (ds := (handE vt.1 h0 x p).map .str) ((ed_lcZT (enc := PyData.str) (enc2 := PyData.str) (xs := vt.1) (ys := h0) (fun _ => true) (fun z => .str (if z.1 = x then p else z.2)) (ed_var rfl (Dp.sub s3.sub _ _ rk)) (ed_var rfl rf) (fun _ _ => rfl) (fun _ _ _ _ _ _ _ _ => et_yes)
        (fun z _ v1 u1 B5 sb ra rb _ => ed_if (et_test (ed_eqS (ed_var rfl ra) (ed_ixT (d := .str x) (ed_var rfl (Dp.sub sb _ _ r3')) (ed_int 1) rfl))) (fun hb => (ed_ixT (d := .str p) (ed_var rfl (Dp.sub sb _ _ r3')) (ed_negI 1) rfl).is (by rw [if_pos (of_decide_eq_true hb)])) (fun hb => (ed_var rfl rb).is (by rw [if_neg (of_decide_eq_false hb)])))).is (by rw [ft_true]; unfold handE; rw [List.map_map]; rfl)) (.inl rfl))) fun vf2 B5 H5 s5 rf2 => ?_
      have s6 := s1234.trans s5
      exact sd_ret s6.fz (s6.ok tk) (ed_tup (eda_cons (ed_call (d := dV (leastV vt.1 (edO vt.2 (.hand x p)))) (eda_cons (ed_var rfl (Dp.sub (s3.sub.trans s5.sub) _ _ rk)) (eda_cons (ed_tupleOf (ds := (edO vt.2 (.hand x p)).map dT) (ed_call (d := dLT (edO vt.2 (.hand x p))) (eda_cons (ed_var rfl (Dp.sub (s3.sub.trans s5.sub) _ _ ro)) (eda_cons (ed_var rfl (Dp.sub s6.sub _ _ r3)) eda_nil)) ⟨vt.2, (.hand x p), ok, hn, by omega, rfl, rfl⟩) (.inl rfl)) eda_nil))
        ⟨vt.1, edO vt.2 (.hand x p), W, edO_in hin hk, sz.1, sz.2, rfl, rfl⟩) (eda_cons (ed_var rfl rf2) eda_nil)) len2) fun v' B' H' s' r' => q v' B' H' (s6.trans s') r'
end
end Vk

set_option Elab.async false
set_option linter.all false
set_option maxRecDepth 100000
set_option maxHeartbeats 4000000
/-! The watch as an object: in the making, read. -/
namespace Vk
open PySem L2 StX
open SlX (SlO Slt slH SCls Slot1 putS SlR)
theorem noT_slO {a C dx : Addr} {vs : List (Option V)} : NoT (SlO a C dx vs) := fun _ z => by unfold SlO at z; cases z
theorem noT_xd {fs : List (Str × V)} : NoT (.xd fs) := fun _ z => nomatch z
theorem noT_own {x : Addr} : NoT (.own x) := fun _ z => nomatch z
theorem noT_ins {C dx : Addr} {fs : List (Str × V)} : NoT (.ins C dx fs) := fun _ z => nomatch z
/-- refs in the slots -/
abbrev sl1 (l1 : Addr) : List (Option V) := [some (.ref l1)]
abbrev sl2 (l1 l2 : Addr) : List (Option V) := [some (.ref l1), some (.ref l2)]
theorem slo_code {a C dx c : Addr} {q : Str} {rs : List Addr} : SlO a C dx (rs.map fun r => some (.ref r)) ≠ LamX.CodeO c q ∨ a ≠ c := by
  by_cases e : a = c
  · left
    subst e
    intro z
    unfold SlO LamX.CodeO at z
    injection z with z
    let O : Obj := { PySem.W.instObj C dx with slots := (rs.map fun r => some (Value.ref r)).toArray }
    let h : Heap := { objs := Array.replicate (a + 1) O }
    have hg : h.get? a = some O := by
      unfold Heap.get?
      have : h.objs[a]? = some O := by
        show (Array.replicate (a + 1) O)[a]? = some O
        rw [Array.getElem?_replicate, if_pos (Nat.lt_succ_self a)]
      rw [this]
    have hs : SlR (rs.map fun r => some (V.ref r)) (rs.map fun r => some (Value.ref r)).toArray := fun i v hv => by
      rw [List.getElem?_map] at hv
      cases qr : rs[i]? with
      | none => rw [qr] at hv; cases hv
      | some r =>
        rw [qr] at hv
        cases hv
        exact ⟨.ref r, by simp [qr], rfl⟩
    have := (congrFun z h).mp ⟨_, hg, hs⟩
    obtain ⟨oc, vs, t, h1, h2, _⟩ := this
    rw [hg] at h1
    cases h1
    cases h2
  · exact .inr e
section
variable {T : Tb} {K : PySem.W.Frag} {B H B' H' H0 : Hp} {D : Addr} {o u : HO}
/-- what was not there at the start changes; it is no code object -/
theorem Sm.mutX (s : Sm T H H') (n : H D = none) (h : H' D = some o) (no : NoT o) (nc : ∀ c q, o = LamX.CodeO c q → D ≠ c) : Sm T H (upd H' D u) := by
  refine ⟨fun b w e nw => ?_, fun tk => ?_⟩
  · rw [upd_ne (ne_of_none e n)]; exact s.ext b w e nw
  · obtain ⟨ps, h1, h2, h3⟩ := s.tab tk
    refine ⟨ps, ?_, h2, fun pos cv hc => ?_⟩
    · rw [upd_ne (ne_of h1 h (fun z => no _ z.symm))]; exact h1
    · obtain ⟨c, e1, e2⟩ := h3 pos cv hc
      refine ⟨c, e1, ?_⟩
      have : c ≠ D := fun z => by
        rw [z, h] at e2
        exact nc c _ (by rw [z]; exact Option.some.inj e2) z.symm
      rw [upd_ne this]; exact e2
theorem St.mutX (s : St T B H B' H') (n : H D = none) (nB : B' D = none) (h : H' D = some o) (no : NoT o) (nc : ∀ c q, o = LamX.CodeO c q → D ≠ c) : St T B H B' (upd H' D u) :=
  ⟨s.sm.mutX n h no nc, s.sub, s.fz.laid nB, s.new⟩
theorem nc_slo {a C dx : Addr} {rs : List Addr} : ∀ c q, SlO a C dx (rs.map fun r => some (.ref r)) = LamX.CodeO c q → a ≠ c := fun c q z => slo_code.resolve_left fun n => n z
theorem nc_xd {fs : List (Str × V)} : ∀ c q, HO.xd fs = LamX.CodeO c q → D ≠ c := fun c q z => by unfold LamX.CodeO at z; cases z
theorem nc_ins {C dx : Addr} {fs : List (Str × V)} : ∀ c q, HO.ins C dx fs = LamX.CodeO c q → D ≠ c := fun c q z => by unfold LamX.CodeO at z; cases z
theorem nc_own {x : Addr} : ∀ c q, HO.own x = LamX.CodeO c q → D ≠ c := fun c q z => by unfold LamX.CodeO at z; cases z
theorem nc_lst {xs : List V} : ∀ c q, HO.lst xs = LamX.CodeO c q → D ≠ c := fun c q z => by unfold LamX.CodeO at z; cases z
end
/-- where a watch's parts lie -/
structure WA where
  x : Addr
  dx : Addr
  l1 : Addr
  l2 : Addr
/-- a watch that may change: its parts are outside of B -/
structure Wt (K : PySem.W.Frag) (C : Addr) (B H : Hp) (a : WA) (S : List Stt) (E : List Ed) : Prop where
  ob : H a.x = some (SlO a.x C a.dx (sl2 a.l1 a.l2))
  di : H a.dx = some (.xd [])
  s : ∃ acc, H a.l1 = some (.lst acc) ∧ DpAll K B acc (S.map dSt)
  e : ∃ acc, H a.l2 = some (.lst acc) ∧ DpAll K B acc (E.map dE)
  nx : B a.x = none
  nd : B a.dx = none
  n1 : B a.l1 = none
  n2 : B a.l2 = none
  ne : a.l1 ≠ a.l2
/-- a watch that stands -/
structure Wf (K : PySem.W.Frag) (C : Addr) (B : Hp) (a : WA) (S : List Stt) (E : List Ed) : Prop where
  ob : B a.x = some (SlO a.x C a.dx (sl2 a.l1 a.l2))
  di : B a.dx = some (.xd [])
  s : Dp K B (.ref a.l1) (.list (S.map dSt))
  e : Dp K B (.ref a.l2) (.list (E.map dE))
section
variable {T : Tb} {K : PySem.W.Frag} {C : Addr} {B H B' H' : Hp} {a : WA} {S : List Stt} {E : List Ed}
theorem Wt.step (w : Wt K C B H a S E) (s : St T B H B' H') : Wt K C B' H' a S E := by
  obtain ⟨c1, h1, r1⟩ := w.s
  obtain ⟨c2, h2, r2⟩ := w.e
  obtain ⟨x1, x2⟩ := s.keepL noT_slO w.nx w.ob
  obtain ⟨d1, d2⟩ := s.keepL noT_xd w.nd w.di
  obtain ⟨a1, a2⟩ := s.keepL noT_lst w.n1 h1
  obtain ⟨b1, b2⟩ := s.keepL noT_lst w.n2 h2
  exact ⟨x2, d2, ⟨c1, a2, DpAll.sub s.sub _ _ r1⟩, ⟨c2, b2, DpAll.sub s.sub _ _ r2⟩, x1, d1, a1, b1, w.ne⟩
theorem Wt.open (f : Fz B H) (w : Wt K C B H a S E) : ∃ B2, Sub B B2 ∧ Fz B2 H ∧ Wf K C B2 a S E ∧ ∀ H2, Sm T H H2 → Fz B2 H2 → Wt K C B H2 a S E := by
  obtain ⟨c1, h1, r1⟩ := w.s
  obtain ⟨c2, h2, r2⟩ := w.e
  have xl1 : a.x ≠ a.l1 := ne_of w.ob h1 fun z => by unfold SlO at z; cases z
  have xl2 : a.x ≠ a.l2 := ne_of w.ob h2 fun z => by unfold SlO at z; cases z
  have xd : a.x ≠ a.dx := ne_of w.ob w.di fun z => by unfold SlO at z; cases z
  have dl1 : a.dx ≠ a.l1 := ne_of w.di h1 fun z => by cases z
  have dl2 : a.dx ≠ a.l2 := ne_of w.di h2 fun z => by cases z
  have f1 := f.withL noT_slO w.ob
  have f2 := f1.withL noT_xd w.di
  have f3 := f2.withL noT_lst h1
  have f4 := f3.withL noT_lst h2
  have s1 : Sub B (upd B a.x (SlO a.x C a.dx (sl2 a.l1 a.l2))) := Sub.withL w.nx
  have s2 := s1.trans (Sub.withL (p := a.dx) (o := .xd []) (by rw [upd_ne xd.symm]; exact w.nd))
  have s3 := s2.trans (Sub.withL (p := a.l1) (o := .lst c1) (by rw [upd_ne dl1.symm, upd_ne xl1.symm]; exact w.n1))
  have s4 := s3.trans (Sub.withL (p := a.l2) (o := .lst c2) (by rw [upd_ne w.ne.symm, upd_ne dl2.symm, upd_ne xl2.symm]; exact w.n2))
  refine ⟨_, s4, f4, ⟨?_, ?_, ?_, ?_⟩, fun H2 sm fz => ⟨sm.ext _ _ w.ob noT_slO, sm.ext _ _ w.di noT_xd, ⟨c1, sm.ext _ _ h1 noT_lst, r1⟩, ⟨c2, sm.ext _ _ h2 noT_lst, r2⟩, w.nx, w.nd, w.n1, w.n2, w.ne⟩⟩
  · rw [upd_ne xl2, upd_ne xl1, upd_ne xd, upd_same]
  · rw [upd_ne dl2, upd_ne dl1, upd_same]
  · refine .lst (.inl (.inl ?_)) (DpAll.sub s4 _ _ r1)
    rw [upd_ne w.ne, upd_same]
  · exact .lst (.inl (.inl upd_same)) (DpAll.sub s4 _ _ r2)
theorem Wf.sub (s : Sub B B') (w : Wf K C B a S E) : Wf K C B' a S E := ⟨s _ _ w.ob, s _ _ w.di, Dp.sub s _ _ w.s, Dp.sub s _ _ w.e⟩
theorem Wf.slt (f : Fz B H) (w : Wf K C B a S E) : Slt H a.x C a.dx (sl2 a.l1 a.l2) := .inr ⟨(f _ _ w.ob).1, (f _ _ w.di).1⟩
theorem Wt.slt (w : Wt K C B H a S E) : Slt H a.x C a.dx (sl2 a.l1 a.l2) := .inr ⟨w.ob, w.di⟩
end
/-! promises of methods -/
section
variable (T : Tb) (K : PySem.W.Frag) (C : Addr)
/-- a reading method: the watch stands -/
def spW (A : List Stt → List Ed → List PyData → PyData → Prop) : Sp := fun vs H Q _ => ∃ B a S E x ds d, vs = V.ref (WA.x a) :: x ∧ Fz B H ∧ TOk T H ∧ Wf K C B a S E ∧ DpAll K B x ds ∧ A S E ds d ∧ ∀ v B' H', St T B H B' H' → Dp K B' v d → Q v H'
/-- a property of the last state: the very value -/
def spX (g : Stt → PyData) : Sp := fun vs H Q _ => ∃ (B : Hp) (x dx l1 l2 : Addr) (acc : List V) (S : List Stt) (s : Stt), vs = [V.ref x] ∧ Fz B H ∧ Slt H x C dx (sl2 l1 l2) ∧ SqL K H l1 acc ∧ DpAll K B acc (S.map dSt) ∧ S.getLast? = some s ∧ ∀ v, Dp K B v (g s) → Q v H
end
section
variable {P : Program} {w : World} {K : PySem.W.Frag} {mg : Str → Option Value} {base : Heap} {T : Tb} {C : Addr}
theorem fnr {CX : CXT} {k : Nat} {f : Addr} {fd : FuncData} {ps : List Str} {sp : Sp} (F : FnOk P w K mg base CX k f fd ps sp) (hb : Binds K fd ps []) : FnR P w K mg base CX k f sp :=
  (F.raw hb .nil).imp fun vs H Q E h => by rw [List.append_nil]; exact h
theorem readW {x q : Str} {st : Stmt} {f : Addr} {fd : FuncData} {N ps : List Str} {k : Nat} {A : List Stt → List Ed → List PyData → PyData → Prop} (F : FunD K x q (defArgs st) (defBody st) (defScope st) [] [] f fd) (S : FnScope N ps (defScope st))
    (len : ∀ S E ds d, A S E ds d → ds.length + 1 = ps.length)
    (hbody : ∀ (cdv : Value) (A' : Around) (outer : List Env) (s : Shared) (H B : Hp) (a : WA) (S : List Stt) (Es : List Ed) (vs : List V) (ds : List PyData) (d : PyData) (E : XK), Room k (A'.deeper (PyProof.Rows.envOfC q (defScope st) s.heap.objs.size f cdv)) → Fz B H → TOk T H → Wf K C B a S Es → DpAll K B vs ds → A S Es ds d →
      ∃ t : TS, PSs (cxOf CX0 P w K mg base N q (defScope st) f cdv A' outer s H E).nox (defBody st) t ∧ ∀ Q : VK, (∀ v B' H', St T B H B' H' → Dp K B' v d → Q v H') → t { nx := fun _ H' => Q .non H', rt := Q } (start N (.ref a.x :: vs)) H) :
    FnOk P w K mg base CX0 (k + 1) f fd ps (spW T K C A) := by
  refine fn_ok F S (fun vs H Q E h => ?_) (fun cdv A' outer s H vs Q E hr h => ?_)
  · obtain ⟨B, a, S, E, x, ds, d, rfl, _, _, _, r, hA, _⟩ := h
    rw [List.length_cons, r.length]; exact len _ _ ds d hA
  · obtain ⟨B, a, S, Es, x, ds, d, rfl, f1, tk, wf, r, hA, q⟩ := h
    obtain ⟨t, h1, h2⟩ := hbody cdv A' outer s H B a S Es x ds d E hr f1 tk wf r hA
    exact ⟨t, h1, h2 _ q⟩
end
section
variable {T : Tb} {K : PySem.W.Frag} {C : Addr} {σ : L2.St} {B : Hp} {a : WA} {S : List Stt} {E : List Ed} {i : Nat} {p0 p1 : Addr}
theorem ed_states (w : Wf K C B a S E) (h : σ[i]? = some (some (.ref a.x))) (c : SCls K C) (s : Slot1 K C "own_states" p0 0) : ED T K (SlX.tSl K (tVar i) "own_states") σ B (.list (S.map dSt)) := fun H f _ Q q =>
  ⟨_, h, a.x, C, a.dx, p0, _, 0, .ref a.l1, rfl, w.slt f, c, s, rfl, q _ B H (St.refl f) w.s⟩
theorem ed_told (w : Wf K C B a S E) (h : σ[i]? = some (some (.ref a.x))) (c : SCls K C) (s : Slot1 K C "own_told" p1 1) : ED T K (SlX.tSl K (tVar i) "own_told") σ B (.list (E.map dE)) := fun H f _ Q q =>
  ⟨_, h, a.x, C, a.dx, p1, _, 1, .ref a.l2, rfl, w.slt f, c, s, rfl, q _ B H (St.refl f) w.e⟩
/-- a property of the last state, the watch stands -/
theorem ed_last {g : Stt → PyData} {X : XK} {s : Stt} (w : Wf K C B a S E) (h : σ[i]? = some (some (.ref a.x))) (hl : S.getLast? = some s) : ED T K (SlX.tPropSl C (spX K C g) X (tVar i)) σ B (g s) := fun H f _ Q q => by
  refine ⟨_, h, a.x, a.dx, _, rfl, w.slt f, ?_⟩
  have hs := w.s
  cases hs with
  | @lst _ zs _ hx t => exact ⟨B, a.x, a.dx, a.l1, a.l2, zs, S, s, rfl, f, w.slt f, sqL_sub (fz_sub f) hx, t, hl, fun v r => q v B H (St.refl f) r⟩
/-- a reading method called, a reading property -/
theorem ed_prop {A : List Stt → List Ed → List PyData → PyData → Prop} {X : XK} {d : PyData} (w : Wf K C B a S E) (h : σ[i]? = some (some (.ref a.x))) (hA : A S E [] d) : ED T K (SlX.tPropSl C (spW T K C A) X (tVar i)) σ B d := fun H f tk Q q =>
  ⟨_, h, a.x, a.dx, _, rfl, w.slt f, B, a, S, E, [], [], d, rfl, f, tk, w, .nil, hA, q⟩
theorem ed_meth {A : List Stt → List Ed → List PyData → PyData → Prop} {X : XK} {d : PyData} {t : TA} {ds : List PyData} (w : Wf K C B a S E) (h : σ[i]? = some (some (.ref a.x))) (ht : EDA T K t σ B ds) (hA : A S E ds d) : ED T K (SlX.tMethSl C (spW T K C A) X (tVar i) t) σ B d := fun H f tk Q q =>
  ⟨_, h, a.x, a.dx, _, rfl, w.slt f, ht H f tk _ fun vs B1 H1 s1 r1 => ⟨B1, a, S, E, vs, ds, d, rfl, s1.fz, s1.ok tk, w.sub s1.sub, r1, hA, fun v B' H' s' r' => q v B' H' (s1.trans s') r'⟩⟩
end
end Vk

set_option Elab.async false
set_option linter.all false
set_option maxRecDepth 100000
set_option maxHeartbeats 4000000
/-! Changing a watch: cut heaps; slots as targets; loops over pairs; enumerate. -/
namespace Vk
open PySem L2 StX
open SlX (SlO Slt slH SCls Slot1 putS SlR)
theorem kSl {X : Cx} {K : PySem.W.Frag} (hK : X.K = K) {e : Expr} {f : Str} {pos : Pos} {ta : TE} (he : PE X e ta) (hb : attributeBase e f X.env (eval e X.env) = eval e X.env := by rfl) : PE X (.Attribute e f pos) (SlX.tSl K ta f) := hK ▸ SlX.pe_sl he hb
section
variable {T : Tb} {K : PySem.W.Frag} {σ : L2.St} {B : Hp} {ta tb tc : TE} {i j k : Int}
theorem ed_opI {d : PyData} {g : Int → Int → V} (h : ED T K ta σ B (.int i)) (h2 : ED T K tb σ B (.int j)) (hd : ∀ B, Dp K B (g i j) d) : ED T K (tOp (rI0 g) ta tb) σ B d := ed_op h h2 fun B1 H1 v w Q f r1 r2 q => by
  cases r1
  cases r2
  exact ⟨i, j, rfl, rfl, q _ (hd B1)⟩
theorem ed_gtI (h : ED T K ta σ B (.int i)) (h2 : ED T K tb σ B (.int j)) : ED T K (tOp (rI0 fun i j => .bl (decide (j < i))) ta tb) σ B (.bool (decide (j < i))) := ed_opI h h2 fun _ => .bl _
theorem ed_ltI (h : ED T K ta σ B (.int i)) (h2 : ED T K tb σ B (.int j)) : ED T K (tOp (rI0 fun i j => .bl (decide (i < j))) ta tb) σ B (.bool (decide (i < j))) := ed_opI h h2 fun _ => .bl _
theorem ed_geI (h : ED T K ta σ B (.int i)) (h2 : ED T K tb σ B (.int j)) : ED T K (tOp (rI0 fun i j => .bl (decide (j ≤ i))) ta tb) σ B (.bool (decide (j ≤ i))) := ed_opI h h2 fun _ => .bl _
theorem ed_addI (h : ED T K ta σ B (.int i)) (h2 : ED T K tb σ B (.int j)) : ED T K (tOp (rI0 fun i j => .int (i + j)) ta tb) σ B (.int (i + j)) := ed_opI h h2 fun _ => .int _
theorem ed_chain (h : ED T K ta σ B (.int i)) (h2 : ED T K tb σ B (.int j)) (h3 : ED T K tc σ B (.int k)) :
    ED T K (tChain (rI0 fun i j => .bl (decide (i ≤ j))) (rI0 fun i j => .bl (decide (i < j))) ta tb tc) σ B (.bool (decide (i ≤ j) && decide (j < k))) := fun H f tk Q q =>
  h H f tk _ fun v B1 H1 s1 r1 => h2.sub s1.sub H1 s1.fz (s1.ok tk) _ fun u B2 H2 s2 r2 => by
    cases r1
    cases r2
    refine ⟨i, j, rfl, rfl, decide (i ≤ j), rfl, ?_⟩
    have s12 := s1.trans s2
    cases e : decide (i ≤ j) with
    | true =>
      refine h3.sub s12.sub H2 s12.fz (s12.ok tk) _ fun w B3 H3 s3 r3 => ?_
      cases r3
      exact ⟨j, k, rfl, rfl, q _ _ _ (s12.trans s3) (by rw [e, Bool.true_and]; exact .bl _)⟩
    | false => exact q _ _ _ s12 (by rw [e, Bool.false_and]; exact .bl _)
end
/-! a slot as a target -/
def gSl (K : PySem.W.Frag) (ta : TE) (f : Str) : TG := fun y σ H Q => ta σ H fun x H2 => ∃ a C dx p vs i, x = .ref a ∧ Slt H2 a C dx vs ∧ SCls K C ∧ Slot1 K C f p i ∧ Q σ (slH H2 a C dx (putS i y vs))
theorem pg_sl {X : Cx} {o : Expr} {f : Str} {pos' : Pos} {ta : TE} (ha : PE X o ta) : PG X (.Attribute o f pos') (gSl X.K ta f) := by
  refine ⟨fun pins s σ H v u Q I r h => ?_⟩
  rw [assign_Attribute]
  refine wpAny_bind (wpAny_holding (thn (ha.run pins s σ H _ I h) fun ov s2 ⟨x, H2, I2, rx, a, C, dx, p, vs, i, ex, hsl, c, t, q2⟩ => ?_))
  subst ex
  obtain rfl : ov = Value.ref a := rx
  refine wpAny_bind (wpAny_standAt (wpAny_bind (wpAny_holding (SlX.setslot_ok I2 hsl c t r fun s3 I3 => ?_))))
  exact wpAny_release ⟨σ, _, I3, q2⟩
/-! heaps without some addresses -/
def Nn (H : Hp) (D : Addr) : Prop := ∀ o, H D = some o → ¬ NoT o
theorem Nn.of {H : Hp} {D : Addr} (h : H D = none) : Nn H D := fun o e => by rw [h] at e; cases e
def cut (A : List Addr) (H : Hp) : Hp := fun b => if b ∈ A then none else H b
theorem cut_in {A : List Addr} {H : Hp} {b : Addr} (h : b ∈ A) : cut A H b = none := if_pos h
theorem cut_out {A : List Addr} {H : Hp} {b : Addr} (h : b ∉ A) : cut A H b = H b := if_neg h
theorem cut_of {A : List Addr} {H : Hp} {b : Addr} {o : HO} (h : cut A H b = some o) : H b = some o ∧ b ∉ A := by
  by_cases q : b ∈ A
  · rw [cut_in q] at h; cases h
  · rw [cut_out q] at h; exact ⟨h, q⟩
section
variable {T : Tb} {K : PySem.W.Frag} {B H B' H' H0 B0 : Hp} {D : Addr} {o u : HO} {A : List Addr}
theorem Nn.old (s : St T B H B' H') (n : Nn H' D) : Nn H D := fun o e no => n o (s.sm.ext D o e no) no
theorem Nn.cutOld (hA : ∀ b ∈ A, Nn H b) (n : Nn (cut A H) D) : Nn H D := fun o e no => by
  by_cases q : D ∈ A
  · exact hA D q o e no
  · exact n o (by rw [cut_out q]; exact e) no
theorem St.mutN (s : St T B H B' H') (n : Nn H D) (nB : B' D = none) (h : H' D = some o) (no : NoT o) (nc : ∀ c q, o = LamX.CodeO c q → D ≠ c) : St T B H B' (upd H' D u) := by
  refine ⟨⟨fun b w e nw => ?_, fun tk => ?_⟩, s.sub, s.fz.laid nB, s.new⟩
  · have : b ≠ D := fun z => n w (by rw [← z]; exact e) nw
    rw [upd_ne this]; exact s.sm.ext b w e nw
  · obtain ⟨ps, h1, h2, h3⟩ := s.sm.tab tk
    refine ⟨ps, ?_, h2, fun pos cv hc => ?_⟩
    · rw [upd_ne (ne_of h1 h (fun z => no _ z.symm))]; exact h1
    · obtain ⟨c, e1, e2⟩ := h3 pos cv hc
      refine ⟨c, e1, ?_⟩
      have : c ≠ D := fun z => by
        rw [z, h] at e2
        exact nc c _ (by rw [z]; exact Option.some.inj e2) z.symm
      rw [upd_ne this]; exact e2
theorem St.cut0 (f : Fz B H) : St T B (cut A H) B H := ⟨Sm.of fun b w e => (cut_of e).1, Sub.refl B, f, fun _ _ h _ _ => h⟩
/-- what may be cut out -/
def Cuts (A : List Addr) (H : Hp) : Prop := ∀ b ∈ A, ∃ o, H b = some o ∧ NoT o ∧ ∀ c q, o = LamX.CodeO c q → b ≠ c
theorem Cuts.tok (h : Cuts A H) (tk : TOk T H) : TOk T (cut A H) := by
  obtain ⟨ps, h1, h2, h3⟩ := tk
  refine ⟨ps, ?_, h2, fun pos cv hc => ?_⟩
  · rw [cut_out fun q => ?_]
    · exact h1
    · obtain ⟨o, e, no, _⟩ := h _ q
      rw [h1] at e; cases e
      exact no _ rfl
  · obtain ⟨c, e1, e2⟩ := h3 pos cv hc
    refine ⟨c, e1, ?_⟩
    rw [cut_out fun q => ?_]
    · exact e2
    · obtain ⟨o, e, _, nc⟩ := h _ q
      rw [e2] at e
      exact nc c _ (Option.some.inj e).symm rfl
theorem St.cutTrans (s : St T B0 H0 B H) (hA : ∀ b ∈ A, Nn H0 b) (hc : Cuts A H) (s2 : St T B (cut A H) B' H') : St T B0 H0 B' H' := by
  refine ⟨⟨fun b o e no => ?_, fun tk => s2.sm.tab (hc.tok (s.sm.tab tk))⟩, s.sub.trans s2.sub, s2.fz, fun b o hB e no => ?_⟩
  · have : b ∉ A := fun q => hA b q o e no
    exact s2.sm.ext b o (by rw [cut_out this]; exact s.sm.ext b o e no) no
  · have : b ∉ A := fun q => hA b q o e no
    exact s2.new b o (s.new b o hB e no) (by rw [cut_out this]; exact s.sm.ext b o e no) no
end
/-- the watch's addresses -/
def WA.ad (a : WA) : List Addr := [a.x, a.dx, a.l1, a.l2]
section
variable {T : Tb} {K : PySem.W.Frag} {C : Addr} {B H B' H' : Hp} {a : WA} {S : List Stt} {E : List Ed}
theorem Wt.cuts (w : Wt K C B H a S E) : Cuts a.ad H := fun b hb => by
  unfold WA.ad at hb
  obtain ⟨c1, h1, _⟩ := w.s
  obtain ⟨c2, h2, _⟩ := w.e
  rcases List.mem_cons.mp hb with rfl | hb
  · exact ⟨_, w.ob, noT_slO, nc_slo (rs := [a.l1, a.l2])⟩
  rcases List.mem_cons.mp hb with rfl | hb
  · exact ⟨_, w.di, noT_xd, nc_xd⟩
  rcases List.mem_cons.mp hb with rfl | hb
  · exact ⟨_, h1, noT_lst, nc_lst⟩
  · rw [List.mem_singleton.mp hb]; exact ⟨_, h2, noT_lst, nc_lst⟩
theorem Wt.bad (w : Wt K C B H a S E) : ∀ b ∈ a.ad, B b = none := fun b hb => by
  unfold WA.ad at hb
  rcases List.mem_cons.mp hb with rfl | hb
  · exact w.nx
  rcases List.mem_cons.mp hb with rfl | hb
  · exact w.nd
  rcases List.mem_cons.mp hb with rfl | hb
  · exact w.n1
  · rw [List.mem_singleton.mp hb]; exact w.n2
end
/-! for a, b in list of pairs -/
section
variable {T : Tb} {K : PySem.W.Frag} {σ : L2.St} {B H : Hp} {tl te : TE} {tt : TT} {tb : TS} {α : Type} {j j2 : Nat} {vs : List Nat} {xs : List α} {e1 e2 : α → PyData} {D : Ends} {enc : α → PyData}
theorem sd_forP (f : Fz B H) (tk : TOk T H) (h : ED T K tl σ B (.list (xs.map fun x => .tuple [e1 x, e2 x])))
    (k : ∀ B1 H1, St T B H B1 H1 → ∃ Pv : Nat → L2.St → Hp → Prop, Pv 0 σ H1 ∧ (∀ i σ' H', Pv i σ' H' → Fz B1 H') ∧
      (∀ i x v u σ' H', xs[i]? = some x → Dp K B1 v (e1 x) → Dp K B1 u (e2 x) → Pv i σ' H' → tb { D with nx := Pv (i + 1), ct := Pv (i + 1), bk := D.nx } ((σ'.set j (some v)).set j2 (some u)) H') ∧ ∀ σ' H', Pv xs.length σ' H' → D.nx σ' H') :
    tFor (iList K (tSz K tl)) (gPair K j j2) tb D σ H :=
  h H f tk _ fun v B1 H1 s1 r1 _ => by
    cases r1 with
    | @lst a zs _ hx t =>
      obtain ⟨Pv, p0, pf, ps, pd⟩ := k B1 H1 s1
      have el : zs.length = xs.length := by rw [t.length, List.length_map]
      refine ⟨a, rfl, ⟨_, sqL_sub (fz_sub s1.fz) hx⟩, ?_⟩
      refine for_it (walk_list (K := K) (a := a) (xs := zs)) Pv p0 (fun i σ' H' _ p => sqL_sub (fz_sub (pf i σ' H' p)) hx) (fun i x σ' H' H'' hi p y => ?_) (fun σ' H' p => pd σ' H' (by rw [← el]; exact p))
      obtain ⟨rfl, hxi⟩ := y
      obtain ⟨x0, g1, _, g3⟩ := enc_at (enc := fun x => PyData.tuple [e1 x, e2 x]) t hxi
      cases g3 with
      | @tup b ws _ hb t2 =>
        obtain ⟨y, z, rfl, h1, h2⟩ := DpAll.two t2
        exact ⟨b, _, rfl, sqT_sub (fz_sub (pf i σ' _ p)) hb, rfl, y, [z], rfl, z, [], rfl, rfl, ps i x0 y z σ' _ g1 h1 h2 p⟩
/-- [.. for i, x in enumerate(xs)] -/
theorem ed_lcE (pz : α × Nat → Bool) (gz : α × Nat → PyData) (h : ED T K te σ B (.list (xs.map enc))) (hw : ∀ x y, wipe (((wipe σ vs).set j (some x)).set j2 (some y)) vs = wipe σ vs)
    (ht : ∀ z ∈ xs.zipIdx, ∀ u B1, Sub B B1 → Dp K B1 u (enc z.1) → ETT T tt (((wipe σ vs).set j (some (.int z.2))).set j2 (some u)) B1 (pz z))
    (he : ∀ z ∈ xs.zipIdx, ∀ u B1, Sub B B1 → Dp K B1 u (enc z.1) → pz z = true → ED T K tl (((wipe σ vs).set j (some (.int z.2))).set j2 (some u)) B1 (gz z)) :
    ED T K (tLc (iEnum K (tCons (tSz K te) tNil)) (gPair K j j2) tt tl vs) σ B (.list ((xs.zipIdx.filter pz).map gz)) := fun H f tk Q q =>
  h H f tk _ fun v B1 H1 s1 r1 hsz => by
    cases r1 with
    | @lst a zs _ hx t =>
      have hx1 := sqL_sub (fz_sub s1.fz) hx
      have el : zs.length = xs.length := by rw [t.length, List.length_map]
      have hl : xs.length ≤ sizeLine := by rw [← el]; exact hsz _ _ (.inl hx1)
      refine ⟨a, _, rfl, hx1, fun D hD => ?_⟩
      refine lc_it (walk_enum (K := K) (a := a) (xs := zs)) (Cw T K B1 H1 D fun i => ((xs.zipIdx.take i).filter pz).map gz) (cw_start s1.fz hD rfl) (fun i H' _ c => ?_) (fun i x H' H'' hi c y => ?_) (fun H' c => ?_)
      · obtain ⟨B', acc, s, _⟩ := c
        exact sqL_sub (fz_sub s.fz) (sqL_sub s.sub hx)
      · obtain ⟨tp, x1, y1, rfl, nT, rfl, g1, g2⟩ := y
        obtain rfl := (Option.some.inj g1).symm
        obtain ⟨y0, h1, h2, h3⟩ := enc_at t g2
        have ez : xs.zipIdx[i]? = some (y0, i) := by
          rw [List.getElem?_zipIdx, h1]; simp
        have c' : Cw T K B1 H1 D (fun i => ((xs.zipIdx.take i).filter pz).map gz) i (upd H' tp (.tup [.int i, y1])) := by
          obtain ⟨B', acc, s, nB, hD', r⟩ := c
          exact ⟨B', acc, s.trans (St.work s.fz nT), nB, by rw [upd_ne (ne_of_none hD' nT)]; exact hD', r⟩
        refine ⟨tp, [.int i, y1], rfl, SqT.of upd_same, rfl, .int i, [y1], rfl, y1, [], rfl, rfl, hw _ y1, ?_⟩
        refine cw_turn (b := pz (y0, i)) (d := gz (y0, i)) (s1.ok tk) hD c' ?_ (fun B' sb fb => ?_) (fun B' sb hb => ?_) (take_filter_map pz gz ez)
        · exact Nat.lt_of_le_of_lt (fm_len pz gz i) (Nat.lt_of_lt_of_le (List.getElem?_eq_some_iff.mp h1).1 hl)
        · exact ht (y0, i) (List.mem_of_getElem? ez) y1 B' (s1.sub.trans sb) (Dp.sub sb _ _ h3)
        · exact he (y0, i) (List.mem_of_getElem? ez) y1 B' (s1.sub.trans sb) (Dp.sub sb _ _ h3) hb
      · refine cw_done hD c fun v B' H2 s r => q v B' H2 (s1.trans s) ?_
        have e : xs.zipIdx.take zs.length = xs.zipIdx := by
          rw [el]
          exact List.take_of_length_le (by rw [List.length_zipIdx]; exact Nat.le_refl _)
        rw [e] at r
        exact r
end
end Vk

set_option Elab.async false
set_option linter.all false
set_option maxRecDepth 100000
set_option maxHeartbeats 4000000
/-! The watch's methods (printed by pw.py). -/
namespace Vk
open PySem L2 StX
open SlX (SlO Slt slH SCls Slot1 putS SlR)
theorem at0 {α : Type} (x : α) (l : List α) : atI (x :: l) 0 = some x := by unfold atI ixN; simp
theorem atLast {α : Type} {l : List α} {x : α} (h : l.getLast? = some x) : atI l (-1) = some x := by
  rcases List.eq_nil_or_concat l with e | ⟨m, b, rfl⟩
  · rw [e] at h; cases h
  · rw [List.concat_eq_append] at h ⊢
    rw [List.getLast?_append] at h
    have hb : b = x := by simpa using h
    subst hb
    unfold atI ixN
    simp only [List.length_append, List.length_cons, List.length_nil]
    have e1 : ¬ (0 ≤ (-1 : Int)) := by decide
    simp
    rw [if_pos (by omega)]
    have e2 : (-1 + ((m.length : Int) + 1)).toNat = m.length := by omega
    simp [e2]
/-- good vaults over ks -/
structure Nv (ks : Ks) (v : Vt) : Prop where
  k : v.1 = ks
  i : InK ks v.2
  ok : Okk v.2
structure SOk (ks : Ks) (S : List Stt) : Prop where
  w : WKs ks
  v : ∀ s ∈ S, Nv ks s.1
def EdOk (v : Vt) (e : Ed) : Prop := WKs v.1 ∧ InK v.1 v.2 ∧ Okk v.2 ∧ (∀ x ∈ knm e, x ∈ v.1) ∧ (knm e).length ≤ 5
theorem leastF_sub {L : Kss} : ∀ {l : Ks}, l ∈ leastF L → l ∈ L := by
  have : ∀ (n : Nat) (L : Kss), L.length = n → ∀ l ∈ leastF L, l ∈ L := by
    intro n
    induction n with
    | zero => intro L h l hl; rw [List.length_eq_zero_iff.mp h] at hl; cases hl
    | succ n ih =>
      intro L h l hl
      rcases List.eq_nil_or_concat L with z | ⟨M, b, rfl⟩
      · rw [z] at h; cases h
      · rw [List.concat_eq_append] at h hl ⊢
        have hM : M.length = n := by rw [List.length_append] at h; exact Nat.succ.inj h
        rw [leastF_snoc] at hl
        split at hl
        · exact List.mem_append_left _ (ih M hM l hl)
        · rcases List.mem_append.mp hl with hl | hl
          · exact List.mem_append_left _ (ih M hM l hl)
          · exact List.mem_append_right _ hl
  exact fun {l} hl => this _ L rfl l hl
theorem least_sub {L : Kss} {l : Ks} (h : l ∈ least L) : l ∈ L := by
  unfold least at h
  have h1 := leastF_sub ((srt_perm _).mem_iff.mp h)
  exact mem_us.mp ((srt_perm _).mem_iff.mp h1)
theorem least_len {L : Kss} : (least L).length ≤ (us tLt L).length := by
  unfold least
  rw [(srt_perm _).length_eq]
  have := leastF_len (srt zLt (us tLt L)) (srt zLt (us tLt L)).length
  rw [List.take_length, (srt_perm _).length_eq] at this
  exact this
theorem leastV_nv {ks : Ks} {L : Kss} (W : WKs ks) (h : InK ks L) : Nv ks (leastV ks L) := by
  have ok := us_ok h
  have mem : ∀ l ∈ (leastV ks L).2, Up sLt l ∧ ∀ x ∈ l, x ∈ ks := fun l hl => ok l (least_sub hl)
  refine ⟨rfl, fun l hl => (mem l hl).2, ⟨fun l hl x hx => W.nm x ((mem l hl).2 x hx), ?_, fun l hl => Nat.le_trans (W.len (mem l hl).1 (mem l hl).2) (by decide)⟩⟩
  have h1 : (us tLt (L.map (us sLt))).length ≤ (subsU ks).length := nodup_le _ _ (us_nodup tLt_to _) fun l hl => of_sub W.up (ok l (mem_us.mp hl)).1 (ok l (mem_us.mp hl)).2
  have h2 := W.pow
  exact Nat.le_trans least_len (by omega)
theorem eithr_nv {ks : Ks} {v o : Vt} (W : WKs ks) (hv : Nv ks v) (ho : Nv ks o) : Nv ks (eithr v o) := by
  unfold eithr
  rw [hv.k]
  exact leastV_nv W fun l hl => (List.mem_append.mp hl).elim (hv.i l) (ho.i l)
theorem bth_nv {ks : Ks} {v o : Vt} (W : WKs ks) (hv : Nv ks v) (ho : Nv ks o) : Nv ks (bth v o) := by
  unfold bth
  rw [hv.k]
  refine leastV_nv W fun l hl => ?_
  obtain ⟨a, ha, hl⟩ := List.mem_flatMap.mp hl
  obtain ⟨b, hb, rfl⟩ := List.mem_map.mp hl
  intro x hx
  exact (List.mem_append.mp hx).elim (hv.i a ha x) (ho.i b hb x)
def ever (f : Vt) (S : List Stt) : Vt := S.foldl (fun f s => eithr f s.1) f
def alws (f : Vt) (S : List Stt) : Vt := S.foldl (fun f s => bth f s.1) f
def fo (S : List Stt) (h : Ks) : PyData := (((S.zipIdx.filter fun z => ho z.1.1.2 h).map fun z => PyData.int z.2).head?).getD .none
def A_told (_ : List Stt) (E : List Ed) (ds : List PyData) (d : PyData) : Prop := ds = [] ∧ d = .tuple (E.map dE)
def A_opened_by (S : List Stt) (_ : List Ed) (ds : List PyData) (d : PyData) : Prop := ∃ (s : Stt) (g : Ks), S.getLast? = some s ∧ ds = [dT g] ∧ d = .bool (gop s.1 s.2 g)
def A_first_open (S : List Stt) (_ : List Ed) (ds : List PyData) (d : PyData) : Prop := ∃ h : Ks, (∀ s ∈ S, ∀ y ∈ h, y ∈ s.1.1) ∧ ds = [dT h] ∧ d = fo S h
def A_ever (S : List Stt) (_ : List Ed) (ds : List PyData) (d : PyData) : Prop := ∃ (ks : Ks) (s0 : Stt) (S' : List Stt), SOk ks S ∧ S = s0 :: S' ∧ ds = [] ∧ d = dV (ever s0.1 S')
def A_always (S : List Stt) (_ : List Ed) (ds : List PyData) (d : PyData) : Prop := ∃ (ks : Ks) (s0 : Stt) (S' : List Stt), SOk ks S ∧ S = s0 :: S' ∧ ds = [] ∧ d = dV (alws s0.1 S')
def A_newly (S : List Stt) (_ : List Ed) (ds : List PyData) (d : PyData) : Prop := ∃ (s0 s : Stt) (S' : List Stt), S = s0 :: S' ∧ S.getLast? = some s ∧ InK s0.1.1 s.1.2 ∧ ds = [] ∧ d = dTT (newO s0.1 s.1)
def A_no_longer (S : List Stt) (_ : List Ed) (ds : List PyData) (d : PyData) : Prop := ∃ (s0 s : Stt) (S' : List Stt), S = s0 :: S' ∧ S.getLast? = some s ∧ InK s.1.1 s0.1.2 ∧ ds = [] ∧ d = dTT (newO s.1 s0.1)
section
variable (T : Tb) (K : PySem.W.Frag) (C : Addr)
def spInit : Sp := fun vs H Q _ => ∃ (B H1 : Hp) (x dx : Addr) (v h : V) (vt : Vt) (hs : Ks), vs = [.ref x, v, h] ∧ Fz B H1 ∧ TOk T H1 ∧ H1 x = none ∧ H1 dx = none ∧ dx ≠ x ∧ H = upd (upd H1 dx (.own x)) x (.ins C dx []) ∧ Dp K B v (dV vt) ∧ Dp K B h (dT hs) ∧
  ∀ (B' H' : Hp) (a : WA), a.x = x → a.dx = dx → St T B H1 B' H' → Wt K C B' H' a [(vt, hs)] [] → Nn H1 a.l1 → Nn H1 a.l2 → Q .non H'
def spDo : Sp := fun vs H Q _ => ∃ (B : Hp) (a : WA) (ve : V) (S : List Stt) (E : List Ed) (s : Stt) (e : Ed), vs = [.ref a.x, ve] ∧ Fz B H ∧ TOk T H ∧ Wt K C B H a S E ∧ Dp K B ve (dE e) ∧ S.getLast? = some s ∧ EdOk s.1 e ∧ S.length < 1000 ∧ E.length < 1000 ∧
  ∀ (B' H' : Hp), St T B (cut a.ad H) B' H' → Wt K C B' H' a (S ++ [edt s.1 s.2 e]) (E ++ [e]) → Q .non H'
end
section
variable {P : Program} {w : World} {K : PySem.W.Frag} {mg : Str → Option Value} {base : Heap} {T : Tb}
theorem ok_Watch_vault (c : Code K mg) : FnOk P w K mg base CX0 1 c.Watch_vault.f c.Watch_vault.fd ["self"] (spX K c.C fun s => dV s.1) := by
  refine fn_ok c.Watch_vault.F sc_Watch_vault (fun vs H Q E h => ?_) (fun cdv A' outer s H vs Q E hr h => ?_)
  · obtain ⟨_, _, _, _, _, _, _, _, rfl, _⟩ := h; rfl
  · obtain ⟨B, x, dx, l1, l2, acc, S, s0, rfl, f, slt, hl, hd, hlast, q⟩ := h
    refine ⟨_, (pss_one (ps_ret (pe_ix (kIxT (K := K) rfl) (pe_ix (kIxL (K := K) rfl) (kSl (K := K) rfl (pv 0)) (pe_un un_neg pe_int) (fun _ _ => rfl)) pe_int (fun _ _ => rfl)))), ?_⟩
    obtain ⟨y, hy, ry⟩ := dp_at (i := -1) hd (atLast (x := dSt s0) (by rw [List.getLast?_map, hlast]; rfl))
    cases ry with
    | @tup b zs _ hb t =>
      obtain ⟨y1, y2, rfl, g1, g2⟩ := DpAll.two t
      exact ⟨_, rfl, x, c.C, dx, c.p0, _, 0, .ref l1, rfl, slt, c.cl, c.sl_own_states, rfl, 1, rfl, l1, acc, -1, _, rfl, rfl, hl, hy, b, _, 0, _, rfl, rfl, sqT_sub (fz_sub f) hb, rfl, q _ g1⟩
theorem ok_Watch_holders (c : Code K mg) : FnOk P w K mg base CX0 1 c.Watch_holders.f c.Watch_holders.fd ["self"] (spX K c.C fun s => dT s.2) := by
  refine fn_ok c.Watch_holders.F sc_Watch_holders (fun vs H Q E h => ?_) (fun cdv A' outer s H vs Q E hr h => ?_)
  · obtain ⟨_, _, _, _, _, _, _, _, rfl, _⟩ := h; rfl
  · obtain ⟨B, x, dx, l1, l2, acc, S, s0, rfl, f, slt, hl, hd, hlast, q⟩ := h
    refine ⟨_, (pss_one (ps_ret (pe_ix (kIxT (K := K) rfl) (pe_ix (kIxL (K := K) rfl) (kSl (K := K) rfl (pv 0)) (pe_un un_neg pe_int) (fun _ _ => rfl)) pe_int (fun _ _ => rfl)))), ?_⟩
    obtain ⟨y, hy, ry⟩ := dp_at (i := -1) hd (atLast (x := dSt s0) (by rw [List.getLast?_map, hlast]; rfl))
    cases ry with
    | @tup b zs _ hb t =>
      obtain ⟨y1, y2, rfl, g1, g2⟩ := DpAll.two t
      exact ⟨_, rfl, x, c.C, dx, c.p0, _, 0, .ref l1, rfl, slt, c.cl, c.sl_own_states, rfl, 1, rfl, l1, acc, -1, _, rfl, rfl, hl, hy, b, _, 1, _, rfl, rfl, sqT_sub (fz_sub f) hb, rfl, q _ g2⟩
theorem ok_Watch_told (c : Code K mg)  : FnOk P w K mg base CX0 1 c.Watch_told.f c.Watch_told.fd ["self"] (spW T K c.C A_told) := by
  refine readW c.Watch_told.F sc_Watch_told (fun S E ds d h => ?_) (fun cdv A' outer s H B a S Es vs ds d E hr f tk wf r hA => ?_)
  · obtain ⟨rfl, _⟩ := h; rfl
  · obtain ⟨rfl, rfl⟩ := hA
    have hst : ∀ {i : Nat}, i = 0 → i = 0 := fun h => h
    refine ⟨_, (pss_one (ps_ret (pe_callTy (kTuple (K := K) rfl) (by rfl) c.m_tuple (by decide +kernel) (pa_cons (kSl (K := K) rfl (pv 0)) pa_nil)))), fun Q q => ?_⟩
    cases r
    exact sd_ret f tk (ed_tupleOf (ed_told wf rfl c.cl c.sl_own_told) (.inl rfl)) q
theorem ok_Watch_opened_by (c : Code K mg) (G_Watch_vault : FnOk P w K mg base CX0 1 c.Watch_vault.f c.Watch_vault.fd ["self"] (spX K c.C fun s => dV s.1)) (G_Watch_holders : FnOk P w K mg base CX0 1 c.Watch_holders.f c.Watch_holders.fd ["self"] (spX K c.C fun s => dT s.2)) (G_opens : FnOk P w K mg base CX0 3 c.opens.f c.opens.fd ["vault", "held"] (spD T K A_opens)) : FnOk P w K mg base CX0 4 c.Watch_opened_by.f c.Watch_opened_by.fd ["self", "people"] (spW T K c.C A_opened_by) := by
  refine readW c.Watch_opened_by.F sc_Watch_opened_by (fun S E ds d h => ?_) (fun cdv A' outer s H B a S Es vs ds d E hr f tk wf r hA => ?_)
  · obtain ⟨_, _, _, rfl, _⟩ := h; rfl
  · obtain ⟨s0, g, hlast, rfl, rfl⟩ := hA
    have hst : ∀ {i : Nat}, i = 0 → i = 0 := fun h => h
    refine ⟨_, (pss_one (ps_ret (pe_call G_opens (hr.mono (by decide)) (by rfl) c.gOV c.opens.F.kp c.opens.b .nil pass0 (pa_cons (SlX.pe_propSl (E := E0) (pv 0) c.cl c.pr_vault.at_ c.pr_vault.get c.pr_vault.tk c.pr_vault.rc (fnr G_Watch_vault c.Watch_vault.b) (hr.mono (by decide)) (fun _ _ _ _ z => z)) (pa_cons (pe_callTy (kTuple (K := K) rfl) (by rfl) c.m_tuple (by decide +kernel) (pa_cons (pe_lc (own := [("key", 2), ("own", 3)]) (g := gPair K 2 3) rfl sc_Watch_opened_by.nd (kPiZ (K := K) rfl (by rfl) c.m_zip (pa_cons (pe_ix (kIxT (K := K) rfl) (SlX.pe_propSl (E := E0) (pv 0) c.cl c.pr_vault.at_ c.pr_vault.get c.pr_vault.tk c.pr_vault.rc (fnr G_Watch_vault c.Watch_vault.b) (hr.mono (by decide)) (fun _ _ _ _ z => z)) pe_int (fun _ _ => rfl)) (pa_cons (kSz (K := K) rfl (SlX.pe_propSl (E := E0) (pv 0) c.cl c.pr_holders.at_ c.pr_holders.get c.pr_holders.tk c.pr_holders.rc (fnr G_Watch_holders c.Watch_holders.b) (hr.mono (by decide)) (fun _ _ _ _ z => z))) pa_nil))) (blkOk_by (N := ["self", "people", "key", "own"]) (sc := defScope s_Watch_opened_by) (by decide +kernel)) (fun _ _ _ _ _ => kTupTg (K := K) rfl rfl (pgs_cons (pg_name (i := 2) sc_Watch_opened_by.nd rfl (Or.inl rfl)) (pgs_cons (pg_name (i := 3) sc_Watch_opened_by.nd rfl (Or.inl rfl)) pgs_nil))) (fun _ _ _ _ _ => (pts_one (pt_cmpR (kIn (K := K) rfl) (pv 3) (pv 1) (by rfl)))) (fun _ _ _ _ _ => (pv 2))) pa_nil)) pa_nil))))), fun Q q => ?_⟩
    obtain ⟨u, rfl, ru⟩ := dpAll1 r
    refine sd_ret f tk (ed_call (eda_cons (ed_last (g := fun s => dV s.1) wf rfl hlast) (eda_cons (ed_tupleOf (ds := (kwth s0.1.1 s0.2 g).map .str) ((ed_lcZT (enc := PyData.str) (enc2 := PyData.str) (xs := s0.1.1) (ys := s0.2) (fun z => decide (z.2 ∈ g)) (fun z => .str z.1) (ed_ixT (d := dT s0.1.1) (ed_last (g := fun s => dV s.1) wf rfl hlast) (ed_int 0) rfl)
      (ed_last (g := fun s => dT s.2) wf rfl hlast) (fun _ _ => rfl) (fun z _ v1 u1 B3 sb ra rb => et_test (ed_in (neg := false) (ed_var rfl rb) (ed_var rfl (Dp.sub sb _ _ ru)) (.inr rfl)))
      (fun z _ v1 u1 B3 sb ra rb _ => ed_var rfl ra)).is (by unfold kwth; rw [List.map_map]; rfl)) (.inl rfl)) eda_nil)) ⟨s0.1, kwth s0.1.1 s0.2 g, fun y hy => ?_, rfl, rfl⟩) q
    unfold kwth at hy
    obtain ⟨z, hz, rfl⟩ := List.mem_map.mp hy
    exact (List.of_mem_zip (List.mem_filter.mp hz).1).1
theorem ok_Watch_first_open (c : Code K mg) (G_opens : FnOk P w K mg base CX0 3 c.opens.f c.opens.fd ["vault", "held"] (spD T K A_opens)) : FnOk P w K mg base CX0 4 c.Watch_first_open.f c.Watch_first_open.fd ["self", "held"] (spW T K c.C A_first_open) := by
  refine readW c.Watch_first_open.F sc_Watch_first_open (fun S E ds d h => ?_) (fun cdv A' outer s H B a S Es vs ds d E hr f tk wf r hA => ?_)
  · obtain ⟨_, _, rfl, _⟩ := h; rfl
  · obtain ⟨h0, hin, rfl, rfl⟩ := hA
    have hst : ∀ {i : Nat}, i = 0 → i = 0 := fun h => h
    refine ⟨_, (pss_cons (ps_setLc (i := 2) (own := [("number", 3), ("state", 4)]) (g := gPair K 3 4) rfl sc_Watch_first_open.nd rfl rfl (sw_true rfl rfl rfl (by decide +kernel)) (kPiE (K := K) rfl (by rfl) c.m_enumerate (pa_cons (kSz (K := K) rfl (kSl (K := K) rfl (pv 0))) pa_nil)) (blkOk_by (N := ["self", "held", "found", "number", "state"]) (sc := defScope s_Watch_first_open) (by decide +kernel)) (fun _ _ _ _ _ => kTupTg (K := K) rfl rfl (pgs_cons (pg_name (i := 3) sc_Watch_first_open.nd rfl (Or.inl rfl)) (pgs_cons (pg_name (i := 4) sc_Watch_first_open.nd rfl (Or.inl rfl)) pgs_nil))) (fun _ _ _ _ _ => (pts_one (pt_val (pe_call G_opens (hr.mono (by decide)) (by rfl) c.gOV c.opens.F.kp c.opens.b .nil pass0 (pa_cons (pe_ix (kIxT (K := K) rfl) (pv 4) pe_int (fun _ _ => rfl)) (pa_cons (pv 1) pa_nil)))))) (fun _ _ _ _ _ => (pv 3))) (pss_one (ps_ret (pe_ifExp (pt_cmpR op_gt (pe_callB (kLen (K := K) rfl) (by rfl) c.m_len (by decide +kernel) (pa_cons (pv 2) pa_nil)) pe_int (nomark _)) (pe_ix (kIxL (K := K) rfl) (pv 2) pe_int (fun _ _ => rfl)) pe_non)))), fun Q q => ?_⟩
    obtain ⟨u, rfl, ru⟩ := dpAll1 r
    refine sd_asg (d := .list ((S.zipIdx.filter fun z => ho z.1.1.2 h0).map fun z => PyData.int z.2)) f tk (ed_lcE (enc := dSt) (xs := S) (fun z => ho z.1.1.2 h0) (fun z => .int z.2) (ed_states wf rfl c.cl c.sl_own_states) (fun _ _ => rfl)
      (fun z hz vz B1 sb rz => et_B (ed_call (eda_cons (ed_ixT (d := dV z.1.1) (ed_var rfl rz) (ed_int 0) rfl) (eda_cons (ed_var rfl (Dp.sub sb _ _ ru)) eda_nil)) ⟨z.1.1, h0, hin z.1 (List.fst_mem_of_mem_zipIdx hz), rfl, rfl⟩)) (fun z hz vz B1 sb rz _ => ed_var rfl (.int _))) fun vf B1 H1 s1 rf => ?_
    unfold fo at q
    cases hl : (S.zipIdx.filter fun z => ho z.1.1.2 h0).map fun z => PyData.int z.2 with
    | nil =>
      rw [hl] at rf q
      exact sd_ret s1.fz (s1.ok tk) (ed_if (b := false) (et_test ((ed_gtI (ed_len (ds := []) (ed_var rfl rf) (.inl rfl)) (ed_int 0)).is (congrArg PyData.bool (by decide)))) (fun z => by cases z) fun _ => ed_non) fun v' B' H' s' r' => q v' B' H' (s1.trans s') r'
    | cons d0 l0 =>
      rw [hl] at rf q
      exact sd_ret s1.fz (s1.ok tk) (ed_if (b := true) (et_test ((ed_gtI (ed_len (ds := d0 :: l0) (ed_var rfl rf) (.inl rfl)) (ed_int 0)).is (congrArg PyData.bool (by rw [List.length_cons]; exact decide_eq_true (by omega))))) (fun _ => ed_ixL (d := d0) (ed_var rfl rf) (ed_int 0) (at0 _ _)) fun z => by cases z) fun v' B' H' s' r' => q v' B' H' (s1.trans s') r'
theorem ok_Watch_ever_vault (c : Code K mg) (G_either : FnOk P w K mg base CX0 6 c.either.f c.either.fd ["vault", "other"] (spD T K A_either)) : FnOk P w K mg base CX0 7 c.Watch_ever_vault.f c.Watch_ever_vault.fd ["self"] (spW T K c.C A_ever) := by
  refine readW c.Watch_ever_vault.F sc_Watch_ever_vault (fun S E ds d h => ?_) (fun cdv A' outer s H B a S Es vs ds d E hr f tk wf r hA => ?_)
  · obtain ⟨_, _, _, _, _, rfl, _⟩ := h; rfl
  · obtain ⟨ks, s0, S0, ok, rfl, rfl, rfl⟩ := hA
    have hst : ∀ {i : Nat}, i = 0 → i = 0 := fun h => h
    refine ⟨_, (pss_cons (ps_set (i := 1) sc_Watch_ever_vault.nd rfl (Or.inl rfl) (pe_ix (kIxT (K := K) rfl) (pe_ix (kIxL (K := K) rfl) (kSl (K := K) rfl (pv 0)) pe_int (fun _ _ => rfl)) pe_int (fun _ _ => rfl))) (pss_cons (ps_for PassesOwn.never rfl (kPiL (K := K) rfl (kSz (K := K) rfl (pe_slice (kSlL (K := K) rfl) (kSl (K := K) rfl (pv 0)) (po_some pe_int) po_none))) (kTupTg (K := K) rfl rfl (pgs_cons (pg_name (i := 2) sc_Watch_ever_vault.nd rfl (Or.inl rfl)) (pgs_cons (pg_name (i := 3) sc_Watch_ever_vault.nd rfl (Or.inl rfl)) pgs_nil))) (pss_one (ps_set (i := 1) sc_Watch_ever_vault.nd rfl (Or.inl rfl) (pe_call G_either (hr.mono (by decide)) (by rfl) c.either.g c.either.F.kp c.either.b .nil pass0 (pa_cons (pv 1) (pa_cons (pv 2) pa_nil)))))) (pss_one (ps_ret (pv 1))))), fun Q q => ?_⟩
    cases r
    have W := ok.w
    refine sd_asg f tk (ed_ixT (d := dV s0.1) (ed_ixL (d := dSt s0) (ed_states wf rfl c.cl c.sl_own_states) (ed_int 0) (at0 _ _)) (ed_int 0) rfl) fun vf B1 H1 s1 rf => ?_
    refine sd_forP (xs := S0) (e1 := fun s : Stt => dV s.1) (e2 := fun s => dT s.2) s1.fz (s1.ok tk) ((ed_slL (lo := some 1) (hi := none) (ed_states (wf.sub s1.sub) rfl c.cl c.sl_own_states) (fun H Q => part_int 1 H Q) (fun H Q => part_no H Q)).is (by
      unfold cutD
      rw [HT.sIx_none]
      show PyData.list _ = _
      have e : HT.sIx ((s0 :: S0).map dSt).length 0 (some 1) = 1 := by
        show min 1 _ = 1
        rw [List.length_map, List.length_cons]; omega
      rw [e]
      congr 1
      rw [List.map_cons, List.drop_succ_cons, List.drop_zero]
      exact List.take_of_length_le (by rw [List.length_cons]; omega))) fun B2 H2 s2 => ?_
    have s12 := s1.trans s2
    refine ⟨fun i σ' H' => ∃ vf o2 o3 B', σ' = [some (.ref a.x), some vf, o2, o3] ∧ St T B2 H2 B' H' ∧ Dp K B' vf (dV (ever s0.1 (S0.take i))) ∧ Nv ks (ever s0.1 (S0.take i)), ?_, ?_, ?_, ?_⟩
    · exact ⟨vf, none, none, B2, rfl, St.refl s2.fz, Dp.sub s2.sub _ _ rf, ok.v s0 List.mem_cons_self⟩
    · rintro i σ' H' ⟨_, _, _, B', _, s, _⟩
      exact Fz.sub s.sub s.fz
    · rintro i s1 v1 u1 σ' H' hx rx ry ⟨vf, o2, o3, B', rfl, s, rf, hf⟩
      have hsv := ok.v s1 (List.mem_cons_of_mem _ (List.mem_of_getElem? hx))
      have e1 : ever s0.1 (S0.take (i + 1)) = eithr (ever s0.1 (S0.take i)) s1.1 := by
        have : S0.take (i + 1) = S0.take i ++ [s1] := by rw [List.take_succ, hx]; rfl
        unfold ever
        rw [this, List.foldl_append]; rfl
      refine sd_asg s.fz (s.ok (s12.ok tk)) (ed_call (d := dV (eithr (ever s0.1 (S0.take i)) s1.1)) (eda_cons (ed_var rfl rf) (eda_cons (ed_var rfl (Dp.sub s.sub _ _ rx)) eda_nil)) ⟨_, s1.1, (hsv.k.trans hf.k.symm), hf.k.symm ▸ W, hf.k.symm ▸ hf.i, hf.k.symm ▸ hsv.i, Nat.le_trans hf.ok.n (by decide), Nat.le_trans hsv.ok.n (by decide), rfl, rfl⟩) fun vn B4 H4 s4 r4 => ?_
      refine ⟨vn, _, _, B4, rfl, s.trans s4, ?_, ?_⟩
      · rw [e1]; exact r4
      · rw [e1]; exact eithr_nv W hf hsv
    · rintro σ' H' ⟨vf, o2, o3, B', rfl, s, rf, _⟩
      rw [List.take_length] at rf
      exact sd_ret s.fz (s.ok (s12.ok tk)) (ed_var rfl rf) fun v' B' H' s' r' => q v' B' H' ((s12.trans s).trans s') r'
theorem ok_Watch_always_vault (c : Code K mg) (G_both : FnOk P w K mg base CX0 6 c.both.f c.both.fd ["vault", "other"] (spD T K A_both)) : FnOk P w K mg base CX0 7 c.Watch_always_vault.f c.Watch_always_vault.fd ["self"] (spW T K c.C A_always) := by
  refine readW c.Watch_always_vault.F sc_Watch_always_vault (fun S E ds d h => ?_) (fun cdv A' outer s H B a S Es vs ds d E hr f tk wf r hA => ?_)
  · obtain ⟨_, _, _, _, _, rfl, _⟩ := h; rfl
  · obtain ⟨ks, s0, S0, ok, rfl, rfl, rfl⟩ := hA
    have hst : ∀ {i : Nat}, i = 0 → i = 0 := fun h => h
    refine ⟨_, (pss_cons (ps_set (i := 1) sc_Watch_always_vault.nd rfl (Or.inl rfl) (pe_ix (kIxT (K := K) rfl) (pe_ix (kIxL (K := K) rfl) (kSl (K := K) rfl (pv 0)) pe_int (fun _ _ => rfl)) pe_int (fun _ _ => rfl))) (pss_cons (ps_for PassesOwn.never rfl (kPiL (K := K) rfl (kSz (K := K) rfl (pe_slice (kSlL (K := K) rfl) (kSl (K := K) rfl (pv 0)) (po_some pe_int) po_none))) (kTupTg (K := K) rfl rfl (pgs_cons (pg_name (i := 2) sc_Watch_always_vault.nd rfl (Or.inl rfl)) (pgs_cons (pg_name (i := 3) sc_Watch_always_vault.nd rfl (Or.inl rfl)) pgs_nil))) (pss_one (ps_set (i := 1) sc_Watch_always_vault.nd rfl (Or.inl rfl) (pe_call G_both (hr.mono (by decide)) (by rfl) c.both.g c.both.F.kp c.both.b .nil pass0 (pa_cons (pv 1) (pa_cons (pv 2) pa_nil)))))) (pss_one (ps_ret (pv 1))))), fun Q q => ?_⟩
    cases r
    have W := ok.w
    refine sd_asg f tk (ed_ixT (d := dV s0.1) (ed_ixL (d := dSt s0) (ed_states wf rfl c.cl c.sl_own_states) (ed_int 0) (at0 _ _)) (ed_int 0) rfl) fun vf B1 H1 s1 rf => ?_
    refine sd_forP (xs := S0) (e1 := fun s : Stt => dV s.1) (e2 := fun s => dT s.2) s1.fz (s1.ok tk) ((ed_slL (lo := some 1) (hi := none) (ed_states (wf.sub s1.sub) rfl c.cl c.sl_own_states) (fun H Q => part_int 1 H Q) (fun H Q => part_no H Q)).is (by
      unfold cutD
      rw [HT.sIx_none]
      show PyData.list _ = _
      have e : HT.sIx ((s0 :: S0).map dSt).length 0 (some 1) = 1 := by
        show min 1 _ = 1
        rw [List.length_map, List.length_cons]; omega
      rw [e]
      congr 1
      rw [List.map_cons, List.drop_succ_cons, List.drop_zero]
      exact List.take_of_length_le (by rw [List.length_cons]; omega))) fun B2 H2 s2 => ?_
    have s12 := s1.trans s2
    refine ⟨fun i σ' H' => ∃ vf o2 o3 B', σ' = [some (.ref a.x), some vf, o2, o3] ∧ St T B2 H2 B' H' ∧ Dp K B' vf (dV (alws s0.1 (S0.take i))) ∧ Nv ks (alws s0.1 (S0.take i)), ?_, ?_, ?_, ?_⟩
    · exact ⟨vf, none, none, B2, rfl, St.refl s2.fz, Dp.sub s2.sub _ _ rf, ok.v s0 List.mem_cons_self⟩
    · rintro i σ' H' ⟨_, _, _, B', _, s, _⟩
      exact Fz.sub s.sub s.fz
    · rintro i s1 v1 u1 σ' H' hx rx ry ⟨vf, o2, o3, B', rfl, s, rf, hf⟩
      have hsv := ok.v s1 (List.mem_cons_of_mem _ (List.mem_of_getElem? hx))
      have e1 : alws s0.1 (S0.take (i + 1)) = bth (alws s0.1 (S0.take i)) s1.1 := by
        have : S0.take (i + 1) = S0.take i ++ [s1] := by rw [List.take_succ, hx]; rfl
        unfold alws
        rw [this, List.foldl_append]; rfl
      refine sd_asg s.fz (s.ok (s12.ok tk)) (ed_call (d := dV (bth (alws s0.1 (S0.take i)) s1.1)) (eda_cons (ed_var rfl rf) (eda_cons (ed_var rfl (Dp.sub s.sub _ _ rx)) eda_nil)) ⟨_, s1.1, (hsv.k.trans hf.k.symm), hf.k.symm ▸ W, hf.k.symm ▸ hf.i, hf.k.symm ▸ hsv.i, Nat.le_trans hf.ok.n (by decide), Nat.le_trans hsv.ok.n (by decide), fun l hl => Nat.le_trans ((List.mem_append.mp hl).elim (hf.ok.el l) (hsv.ok.el l)) (by decide), rfl, rfl⟩) fun vn B4 H4 s4 r4 => ?_
      refine ⟨vn, _, _, B4, rfl, s.trans s4, ?_, ?_⟩
      · rw [e1]; exact r4
      · rw [e1]; exact bth_nv W hf hsv
    · rintro σ' H' ⟨vf, o2, o3, B', rfl, s, rf, _⟩
      rw [List.take_length] at rf
      exact sd_ret s.fz (s.ok (s12.ok tk)) (ed_var rfl rf) fun v' B' H' s' r' => q v' B' H' ((s12.trans s).trans s') r'
theorem ok_Watch_newly (c : Code K mg) (G_Watch_vault : FnOk P w K mg base CX0 1 c.Watch_vault.f c.Watch_vault.fd ["self"] (spX K c.C fun s => dV s.1)) (G_opens : FnOk P w K mg base CX0 3 c.opens.f c.opens.fd ["vault", "held"] (spD T K A_opens)) : FnOk P w K mg base CX0 4 c.Watch_newly.f c.Watch_newly.fd ["self"] (spW T K c.C A_newly) := by
  refine readW c.Watch_newly.F sc_Watch_newly (fun S E ds d h => ?_) (fun cdv A' outer s H B a S Es vs ds d E hr f tk wf r hA => ?_)
  · obtain ⟨_, _, _, _, _, _, rfl, _⟩ := h; rfl
  · obtain ⟨s0, s1, S0, rfl, hlast, hin, rfl, rfl⟩ := hA
    have hst : ∀ {i : Nat}, i = 0 → i = 0 := fun h => h
    refine ⟨_, (pss_one (ps_ret (pe_callTy (kTuple (K := K) rfl) (by rfl) c.m_tuple (by decide +kernel) (pa_cons (pe_lc (own := [("own", 1)]) (g := gName 1) rfl sc_Watch_newly.nd (kPiT (K := K) rfl (kSz (K := K) rfl (pe_ix (kIxT (K := K) rfl) (SlX.pe_propSl (E := E0) (pv 0) c.cl c.pr_vault.at_ c.pr_vault.get c.pr_vault.tk c.pr_vault.rc (fnr G_Watch_vault c.Watch_vault.b) (hr.mono (by decide)) (fun _ _ _ _ z => z)) pe_int (fun _ _ => rfl)))) (blkOk_by (N := ["self", "own"]) (sc := defScope s_Watch_newly) (by decide +kernel)) (fun _ _ _ _ _ => pg_name (i := 1) sc_Watch_newly.nd rfl (Or.inl rfl)) (fun _ _ _ _ _ => (pts_one (pt_not (pt_val (pe_call G_opens (hr.mono (by decide)) (by rfl) c.gOV c.opens.F.kp c.opens.b .nil pass0 (pa_cons (pe_ix (kIxT (K := K) rfl) (pe_ix (kIxL (K := K) rfl) (kSl (K := K) rfl (pv 0)) pe_int (fun _ _ => rfl)) pe_int (fun _ _ => rfl)) (pa_cons (pv 1) pa_nil))))))) (fun _ _ _ _ _ => (pv 1))) pa_nil)))), fun Q q => ?_⟩
    cases r
    refine sd_ret f tk (ed_tupleOf (ds := (newO s0.1 s1.1).map dT) (ed_filT (enc := dT) (xs := s1.1.2) (fun o => !ho s0.1.2 o) (ed_ixT (d := dTT s1.1.2) (ed_last (g := fun s => dV s.1) wf rfl hlast) (ed_int 1) rfl) (fun _ => rfl)
      (fun o ho1 vo B3 sb ro => et_not (et_B (ed_call (eda_cons (ed_ixT (d := dV s0.1) (ed_ixL (d := dSt s0) (ed_states (wf.sub sb) rfl c.cl c.sl_own_states) (ed_int 0) (at0 _ _)) (ed_int 0) rfl) (eda_cons (ed_var rfl ro) eda_nil)) ⟨s0.1, o, hin o ho1, rfl, rfl⟩))) (fun o _ vo B3 sb ro _ => ed_var rfl ro)) (.inl rfl)) q
theorem ok_Watch_no_longer (c : Code K mg) (G_Watch_vault : FnOk P w K mg base CX0 1 c.Watch_vault.f c.Watch_vault.fd ["self"] (spX K c.C fun s => dV s.1)) (G_opens : FnOk P w K mg base CX0 3 c.opens.f c.opens.fd ["vault", "held"] (spD T K A_opens)) : FnOk P w K mg base CX0 4 c.Watch_no_longer.f c.Watch_no_longer.fd ["self"] (spW T K c.C A_no_longer) := by
  refine readW c.Watch_no_longer.F sc_Watch_no_longer (fun S E ds d h => ?_) (fun cdv A' outer s H B a S Es vs ds d E hr f tk wf r hA => ?_)
  · obtain ⟨_, _, _, _, _, _, rfl, _⟩ := h; rfl
  · obtain ⟨s0, s1, S0, rfl, hlast, hin, rfl, rfl⟩ := hA
    have hst : ∀ {i : Nat}, i = 0 → i = 0 := fun h => h
    refine ⟨_, (pss_one (ps_ret (pe_callTy (kTuple (K := K) rfl) (by rfl) c.m_tuple (by decide +kernel) (pa_cons (pe_lc (own := [("own", 1)]) (g := gName 1) rfl sc_Watch_no_longer.nd (kPiT (K := K) rfl (kSz (K := K) rfl (pe_ix (kIxT (K := K) rfl) (pe_ix (kIxT (K := K) rfl) (pe_ix (kIxL (K := K) rfl) (kSl (K := K) rfl (pv 0)) pe_int (fun _ _ => rfl)) pe_int (fun _ _ => rfl)) pe_int (fun _ _ => rfl)))) (blkOk_by (N := ["self", "own"]) (sc := defScope s_Watch_no_longer) (by decide +kernel)) (fun _ _ _ _ _ => pg_name (i := 1) sc_Watch_no_longer.nd rfl (Or.inl rfl)) (fun _ _ _ _ _ => (pts_one (pt_not (pt_val (pe_call G_opens (hr.mono (by decide)) (by rfl) c.gOV c.opens.F.kp c.opens.b .nil pass0 (pa_cons (SlX.pe_propSl (E := E0) (pv 0) c.cl c.pr_vault.at_ c.pr_vault.get c.pr_vault.tk c.pr_vault.rc (fnr G_Watch_vault c.Watch_vault.b) (hr.mono (by decide)) (fun _ _ _ _ z => z)) (pa_cons (pv 1) pa_nil))))))) (fun _ _ _ _ _ => (pv 1))) pa_nil)))), fun Q q => ?_⟩
    cases r
    refine sd_ret f tk (ed_tupleOf (ds := (newO s1.1 s0.1).map dT) (ed_filT (enc := dT) (xs := s0.1.2) (fun o => !ho s1.1.2 o) (ed_ixT (d := dTT s0.1.2) (ed_ixT (d := dV s0.1) (ed_ixL (d := dSt s0) (ed_states wf rfl c.cl c.sl_own_states) (ed_int 0) (at0 _ _)) (ed_int 0) rfl) (ed_int 1) rfl) (fun _ => rfl)
      (fun o ho1 vo B3 sb ro => et_not (et_B (ed_call (eda_cons (ed_last (g := fun s => dV s.1) (wf.sub sb) rfl hlast) (eda_cons (ed_var rfl ro) eda_nil)) ⟨s1.1, o, hin o ho1, rfl, rfl⟩))) (fun o _ vo B3 sb ro _ => ed_var rfl ro)) (.inl rfl)) q
end
end Vk

set_option Elab.async false
set_option linter.all false
set_option maxRecDepth 100000
set_option maxHeartbeats 4000000
/-! The watch's changing methods (printed by pw3.py). -/
namespace Vk
open PySem L2 StX
open SlX (SlO Slt slH SCls Slot1 putS SlR)
theorem slH_x {H : Hp} {x C dx : Addr} {vs : List (Option V)} : slH H x C dx vs x = some (SlO x C dx vs) := by unfold slH; rw [upd_same]
theorem slH_d {H : Hp} {x C dx : Addr} {vs : List (Option V)} (h : dx ≠ x) : slH H x C dx vs dx = some (.xd []) := by unfold slH; rw [upd_ne h, upd_same]
section
variable (T : Tb) (K : PySem.W.Frag) (C : Addr)
/-- edits one after another -/
def runE (s : Stt) (es : List Ed) : List Stt := match es with
  | [] => []
  | e :: es => edt s.1 s.2 e :: runE (edt s.1 s.2 e) es
def okE (s : Stt) : List Ed → Prop
  | [] => True
  | e :: es => EdOk s.1 e ∧ okE (edt s.1 s.2 e) es
def spBack : Sp := fun vs H Q _ => ∃ (B : Hp) (a : WA) (n : Nat) (S : List Stt) (E : List Ed) (s : Stt), vs = [.ref a.x, .int n] ∧ Fz B H ∧ TOk T H ∧ Wt K C B H a S E ∧ S.head? = some s ∧ n < E.length ∧ E.length < 900 ∧ okE s (E.eraseIdx n) ∧
  ∀ (B' H' : Hp) (a' : WA), a'.x = a.x → a'.dx = a.dx → Nn (cut a.ad H) a'.l1 → Nn (cut a.ad H) a'.l2 → St T B (cut a.ad H) B' H' → Wt K C B' H' a' (s :: runE s (E.eraseIdx n)) (E.eraseIdx n) → Q .non H'
end
theorem sd_slL {T : Tb} {K : PySem.W.Frag} {C : Addr} {σ : L2.St} {B H : Hp} {D : Ends} {i0 i : Nat} {x dx p : Addr} {vs : List (Option V)} {ta : TA} {ds : List PyData} {fl : Str} (f : Fz B H) (tk : TOk T H) (h : EDA T K ta σ B ds) (hl : ds.length ≤ sizeLine) (hx : σ[i0]? = some (some (.ref x))) (c : SCls K C) (sl : Slot1 K C fl p i)
    (k : ∀ ws B2 H2 l, St T B H B2 H2 → DpAll K B2 ws ds → H2 l = none → Slt (upd H2 l (.lst ws)) x C dx vs ∧ D.nx σ (slH (upd H2 l (.lst ws)) x C dx (putS i (.ref l) vs))) : SlX.sSl K (tVar i0) (tLst ta) fl D σ H :=
  h H f tk _ fun ws B2 H2 s r => ⟨by rw [r.length]; exact hl, fun l n => by
    obtain ⟨a1, a2⟩ := k ws B2 H2 l s r n
    exact ⟨_, hx, x, C, dx, p, vs, i, rfl, a1, c, sl, a2⟩⟩
theorem runE_app (s : Stt) : ∀ (es : List Ed) (e : Ed) (s' : Stt), (s :: runE s es).getLast? = some s' → runE s (es ++ [e]) = runE s es ++ [edt s'.1 s'.2 e]
  | [], e, s', h => by
    cases h
    rfl
  | e0 :: es, e, s', h => by
    show edt s.1 s.2 e0 :: runE (edt s.1 s.2 e0) (es ++ [e]) = _
    rw [runE_app (edt s.1 s.2 e0) es e s' (by simpa [runE] using h)]
    rfl
theorem runE_len (s : Stt) : ∀ es : List Ed, (runE s es).length = es.length
  | [] => rfl
  | e :: es => by show (runE _ es).length + 1 = _; rw [runE_len _ es]; rfl
theorem dep_dE (e : Ed) : (dE e).depth ≤ 3 := by
  cases e with
  | opens l =>
    unfold dE; rw [dep_tuple]
    refine Nat.succ_le_succ (depAll_le fun d hd => ?_)
    rcases List.mem_cons.mp hd with rfl | hd
    · simp [PyData.depth]
    · rw [List.mem_singleton.mp hd, dep_dT]; decide
  | bars l =>
    unfold dE; rw [dep_tuple]
    refine Nat.succ_le_succ (depAll_le fun d hd => ?_)
    rcases List.mem_cons.mp hd with rfl | hd
    · simp [PyData.depth]
    · rw [List.mem_singleton.mp hd, dep_dT]; decide
  | lost x => simp [dE, PyData.depth, PyData.depthAll]
  | left x => simp [dE, PyData.depth, PyData.depthAll]
  | swap x y => simp [dE, PyData.depth, PyData.depthAll]
  | hand x y => simp [dE, PyData.depth, PyData.depthAll]
theorem tup_dE (e : Ed) : tup (dE e) = dE e := by
  cases e with
  | opens l => unfold dE; rw [tup_tuple, List.map_cons, List.map_cons, List.map_nil, tup_dT, tup_dS]
  | bars l => unfold dE; rw [tup_tuple, List.map_cons, List.map_cons, List.map_nil, tup_dT, tup_dS]
  | lost x => unfold dE; rw [tup_tuple]; simp [tup_dS]
  | left x => unfold dE; rw [tup_tuple]; simp [tup_dS]
  | swap x y => unfold dE; rw [tup_tuple]; simp [tup_dS]
  | hand x y => unfold dE; rw [tup_tuple]; simp [tup_dS]
theorem okE_at {s : Stt} : ∀ {es : List Ed} {i : Nat} {e : Ed} {s' : Stt}, okE s es → es[i]? = some e → (s :: runE s (es.take i)).getLast? = some s' → EdOk s'.1 e
  | [], _, _, _, _, h, _ => by simp at h
  | e0 :: es, 0, e, s', ok, h, hl => by
    simp at h
    subst h
    cases hl
    exact ok.1
  | e0 :: es, i + 1, e, s', ok, h, hl => by
    refine okE_at (i := i) ok.2 (by simpa using h) ?_
    simpa [runE] using hl
section
variable {P : Program} {w : World} {K : PySem.W.Frag} {mg : Str → Option Value} {base : Heap} {T : Tb}
theorem ok_Watch_init (c : Code K mg) (G_tupled : FnOk P w K mg base CX0 4 c.tupled.f c.tupled.fd ["value"] (spD T K (A_tup 3))) : FnOk P w K mg base CX0 5 c.Watch_init.f c.Watch_init.fd ["self", "vault", "holders"] (spInit T K c.C) := by
  refine fn_ok c.Watch_init.F sc_Watch_init (fun vs H Q E h => ?_) (fun cdv A' outer s H vs Q E hr h => ?_)
  · obtain ⟨_, _, _, _, _, _, _, _, rfl, _⟩ := h; rfl
  · obtain ⟨B, H1, x, dx, v, h, vt, hs, rfl, f, tk, nx, ndx, hne, rfl, rv, rh, q⟩ := h
    refine ⟨_, (pss_cons (SlX.ps_sl (pv 0) (pe_lst (pa_cons (pe_tup (pa_cons (pe_call G_tupled (hr.mono (by decide)) (by rfl) c.tupled.g c.tupled.F.kp c.tupled.b .nil pass0 (pa_cons (pv 1) pa_nil)) (pa_cons (pe_call G_tupled (hr.mono (by decide)) (by rfl) c.tupled.g c.tupled.F.kp c.tupled.b .nil pass0 (pa_cons (pv 2) pa_nil)) pa_nil))) pa_nil))) (pss_one (SlX.ps_sl (pv 0) (pe_lst pa_nil)))), ?_⟩
    have nx' : upd H1 dx (.own x) x = none := by rw [upd_ne hne.symm]; exact nx
    have s00 : St T B H1 B (upd (upd H1 dx (.own x)) x (.ins c.C dx [])) := (St.work f ndx).trans (St.work (f.laid (f.off ndx)) nx')
    have tk0 := s00.ok tk
    have hx0 : upd (upd H1 dx (.own x)) x (.ins c.C dx []) x = some (.ins c.C dx []) := upd_same
    have hd0 : upd (upd H1 dx (.own x)) x (.ins c.C dx []) dx = some (.own x) := by rw [upd_ne hne, upd_same]
    generalize upd (upd H1 dx (.own x)) x (.ins c.C dx []) = H at s00 tk0 hx0 hd0 ⊢
    refine sd_slL (dx := dx) (vs := []) (ds := [dSt (vt, hs)]) s00.fz tk0 (eda_cons (ed_tup (eda_cons (ed_call (d := dV vt) (eda_cons (ed_var rfl rv) eda_nil) ⟨dV vt, dep_dV _, rfl, (tup_dV _).symm⟩) (eda_cons (ed_call (d := dT hs) (eda_cons (ed_var rfl rh) eda_nil) ⟨dT hs, by rw [dep_dT]; decide, rfl, (tup_dT _).symm⟩) eda_nil)) len2) eda_nil) len1 rfl c.cl c.sl_own_states fun ws B2 H2 l1 s1 r1 n1 => ?_
    have s01 := s00.trans s1
    obtain ⟨nBx, hx2⟩ := s1.keepL noT_ins (f.off nx) hx0
    obtain ⟨nBd, hd2⟩ := s1.keepL noT_own (f.off ndx) hd0
    have s02 := s01.trans (St.work (T := T) (o := .lst ws) s01.fz n1)
    have hxl : x ≠ l1 := ne_of_none hx2 n1
    have hdl : dx ≠ l1 := ne_of_none hd2 n1
    have hx3 : upd H2 l1 (.lst ws) x = some (.ins c.C dx []) := by rw [upd_ne hxl]; exact hx2
    have hd3 : upd H2 l1 (.lst ws) dx = some (.own x) := by rw [upd_ne hdl]; exact hd2
    refine ⟨.inl ⟨hx3, rfl⟩, ?_⟩
    have s03 : St T B H1 B2 (slH (upd H2 l1 (.lst ws)) x c.C dx (putS 0 (.ref l1) [])) := by
      unfold slH
      exact (s02.mutX (u := .xd []) ndx nBd hd3 noT_own nc_own).mutX nx nBx (by rw [upd_ne hne.symm]; exact hx3) noT_ins nc_ins
    have hl3 : slH (upd H2 l1 (.lst ws)) x c.C dx (putS 0 (.ref l1) []) l1 = some (.lst ws) := by rw [SlX.slH_ne hxl.symm hdl.symm, upd_same]
    have hx4 : slH (upd H2 l1 (.lst ws)) x c.C dx (putS 0 (.ref l1) []) x = some (SlO x c.C dx (sl1 l1)) := slH_x
    have hd4 : slH (upd H2 l1 (.lst ws)) x c.C dx (putS 0 (.ref l1) []) dx = some (.xd []) := slH_d hne
    have nB1 : B2 l1 = none := s1.fz.off n1
    have nl1 : Nn H1 l1 := Nn.old s01 (Nn.of n1)
    generalize slH (upd H2 l1 (.lst ws)) x c.C dx (putS 0 (.ref l1) []) = H3 at s03 hl3 hx4 hd4 ⊢
    have tk3 := s03.ok tk
    refine sd_slL (dx := dx) (vs := sl1 l1) (ds := []) s03.fz tk3 eda_nil (Nat.zero_le _) rfl c.cl c.sl_own_told fun us B4 H4 l2 s4 r4 n2 => ?_
    cases r4
    obtain ⟨nBx4, hx5⟩ := s4.keepL noT_slO nBx hx4
    obtain ⟨nBd4, hd5⟩ := s4.keepL noT_xd nBd hd4
    obtain ⟨nBl4, hl5⟩ := s4.keepL noT_lst nB1 hl3
    have hx2l : x ≠ l2 := ne_of_none hx5 n2
    have hd2l : dx ≠ l2 := ne_of_none hd5 n2
    have hl2l : l1 ≠ l2 := ne_of_none hl5 n2
    have hx6 : upd H4 l2 (.lst []) x = some (SlO x c.C dx (sl1 l1)) := by rw [upd_ne hx2l]; exact hx5
    have hd6 : upd H4 l2 (.lst []) dx = some (.xd []) := by rw [upd_ne hd2l]; exact hd5
    refine ⟨.inr ⟨hx6, hd6⟩, ?_⟩
    have s04 := (s03.trans s4).trans (St.work (T := T) (o := .lst []) (s03.trans s4).fz n2)
    have s05 : St T B H1 B4 (slH (upd H4 l2 (.lst []) ) x c.C dx (putS 1 (.ref l2) (sl1 l1))) := by
      unfold slH
      exact (s04.mutX (u := .xd []) ndx nBd4 hd6 noT_xd nc_xd).mutX nx nBx4 (by rw [upd_ne hne.symm]; exact hx6) noT_slO (nc_slo (rs := [l1]))
    have hl1 : l1 ≠ x ∧ l1 ≠ dx := ⟨hxl.symm, hdl.symm⟩
    refine q B4 _ ⟨x, dx, l1, l2⟩ rfl rfl s05 ⟨slH_x, slH_d hne, ⟨ws, ?_, DpAll.sub s4.sub _ _ r1⟩, ⟨[], ?_, .nil⟩, nBx4, nBd4, nBl4, s4.fz.off n2, hl2l⟩ nl1 (Nn.old (s03.trans s4) (Nn.of n2))
    · rw [SlX.slH_ne hl1.1 hl1.2, upd_ne hl2l]; exact hl5
    · rw [SlX.slH_ne hx2l.symm hd2l.symm, upd_same]
theorem ok_Watch_do (c : Code K mg) (G_Watch_vault : FnOk P w K mg base CX0 1 c.Watch_vault.f c.Watch_vault.fd ["self"] (spX K c.C fun s => dV s.1)) (G_Watch_holders : FnOk P w K mg base CX0 1 c.Watch_holders.f c.Watch_holders.fd ["self"] (spX K c.C fun s => dT s.2)) (G_edited : FnOk P w K mg base CX0 7 c.edited.f c.edited.fd ["vault", "holders", "edit"] (spD T K A_edited)) (G_tupled : FnOk P w K mg base CX0 4 c.tupled.f c.tupled.fd ["value"] (spD T K (A_tup 3))) : FnOk P w K mg base CX0 8 c.Watch_do.f c.Watch_do.fd ["self", "edit"] (spDo T K c.C) := by
  refine fn_ok c.Watch_do.F sc_Watch_do (fun vs H Q E h => ?_) (fun cdv A' outer s H vs Q E hr h => ?_)
  · obtain ⟨_, _, _, _, _, _, _, rfl, _⟩ := h; rfl
  · obtain ⟨B, a, ve, S, Es, s0, e, rfl, f, tk, wt, re, hlast, eok, hS, hE, q⟩ := h
    refine ⟨_, (pss_cons (ps_expr (pe_bm PySem.F.plainAttrs_list PySem.F.slot_list_append PySem.F.type_list_append mt_append (kSl (K := K) rfl (pv 0)) (pa_cons (pe_call G_edited (hr.mono (by decide)) (by rfl) c.edited.g c.edited.F.kp c.edited.b .nil pass0 (pa_cons (SlX.pe_propSl (E := E0) (pv 0) c.cl c.pr_vault.at_ c.pr_vault.get c.pr_vault.tk c.pr_vault.rc (fnr G_Watch_vault c.Watch_vault.b) (hr.mono (by decide)) (fun _ _ _ _ z => z)) (pa_cons (SlX.pe_propSl (E := E0) (pv 0) c.cl c.pr_holders.at_ c.pr_holders.get c.pr_holders.tk c.pr_holders.rc (fnr G_Watch_holders c.Watch_holders.b) (hr.mono (by decide)) (fun _ _ _ _ z => z)) (pa_cons (pv 1) pa_nil)))) pa_nil))) (pss_one (ps_expr (pe_bm PySem.F.plainAttrs_list PySem.F.slot_list_append PySem.F.type_list_append mt_append (kSl (K := K) rfl (pv 0)) (pa_cons (pe_call G_tupled (hr.mono (by decide)) (by rfl) c.tupled.g c.tupled.F.kp c.tupled.b .nil pass0 (pa_cons (pv 1) pa_nil)) pa_nil))))), ?_⟩
    obtain ⟨acc, ha, ra⟩ := wt.s
    have lastV : ∀ (g : Stt → PyData) (Q' : VK), (∀ v, Dp K B v (g s0) → Q' v H) → SlX.tPropSl c.C (spX K c.C g) E0 (tVar 0) (start ["self", "edit"] [.ref a.x, ve]) H Q' := fun g Q' q' =>
      ⟨_, rfl, a.x, a.dx, _, rfl, wt.slt, B, a.x, a.dx, a.l1, a.l2, acc, S, s0, rfl, f, wt.slt, SqL.of ha, ra, hlast, q'⟩
    obtain ⟨W, hin, okk, hk, hl⟩ := eok
    have s0' : St T B (cut a.ad H) B H := St.cut0 f
    have cin : ∀ b ∈ a.ad, cut a.ad H b = none := fun b hb => cut_in hb
    refine ⟨.ref a.x, rfl, a.x, c.C, a.dx, c.p0, _, 0, .ref a.l1, rfl, wt.slt, c.cl, c.sl_own_states, rfl, .inl ⟨rfl, _, SqL.of ha⟩, ?_⟩
    refine lastV (fun s => dV s.1) _ fun v1 r1 => lastV (fun s => dT s.2) _ fun v2 r2 => ⟨ve, rfl, B, [dV s0.1, dT s0.2, dE e], _, f, tk, .cons r1 (.cons r2 (.cons re .nil)), ⟨s0.1, s0.2, e, W, hin, okk, hk, hl, rfl, rfl⟩, fun y B1 H1 s1 ry => ?_⟩
    have w1 := wt.step s1
    obtain ⟨acc1, ha1, ra1⟩ := w1.s
    obtain ⟨acc2, hb1, rb1⟩ := w1.e
    refine ⟨a.l1, acc1, y, rfl, rfl, ha1, by rw [ra1.length, List.length_map, ← big_line]; omega, ?_⟩
    have xl1 : a.x ≠ a.l1 := ne_of w1.ob ha1 fun z => by unfold SlO at z; cases z
    have xl2 : a.x ≠ a.l2 := ne_of w1.ob hb1 fun z => by unfold SlO at z; cases z
    have dl1 : a.dx ≠ a.l1 := ne_of w1.di ha1 fun z => by cases z
    have dl2 : a.dx ≠ a.l2 := ne_of w1.di hb1 fun z => by cases z
    have m1 : a.l1 ∈ a.ad := by simp [WA.ad]
    have m2 : a.l2 ∈ a.ad := by simp [WA.ad]
    have s2 : St T B (cut a.ad H) B1 (upd H1 a.l1 (.lst (acc1 ++ [y]))) := (s0'.trans s1).mut (cin _ m1) w1.n1 ha1
    have w2 : Wt K c.C B1 (upd H1 a.l1 (.lst (acc1 ++ [y]))) a (S ++ [edt s0.1 s0.2 e]) Es := by
      refine ⟨by rw [upd_ne xl1]; exact w1.ob, by rw [upd_ne dl1]; exact w1.di, ⟨_, upd_same, ?_⟩, ⟨acc2, by rw [upd_ne w1.ne.symm]; exact hb1, rb1⟩, w1.nx, w1.nd, w1.n1, w1.n2, w1.ne⟩
      rw [List.map_append]
      exact DpAll.append ra1 (.cons ry .nil)
    have tk2 : TOk T (upd H1 a.l1 (.lst (acc1 ++ [y]))) := s2.ok (wt.cuts.tok tk)
    obtain ⟨acc3, hb2, rb2⟩ := w2.e
    refine ⟨.ref a.x, rfl, a.x, c.C, a.dx, c.p1, _, 1, .ref a.l2, rfl, w2.slt, c.cl, c.sl_own_told, rfl, .inl ⟨rfl, _, SqL.of hb2⟩, ?_⟩
    refine ⟨ve, rfl, B1, [dE e], dE e, s2.fz, tk2, .cons (Dp.sub s1.sub _ _ re) .nil, ⟨dE e, dep_dE e, rfl, (tup_dE e).symm⟩, fun z B3 H3 s3 rz => ?_⟩
    have w3 := w2.step s3
    obtain ⟨acc4, hb4, rb4⟩ := w3.e
    obtain ⟨acc5, ha5, ra5⟩ := w3.s
    refine ⟨a.l2, acc4, z, rfl, rfl, hb4, by rw [rb4.length, List.length_map, ← big_line]; omega, ?_⟩
    refine q B3 _ ((s2.trans s3).mut (cin _ m2) w3.n2 hb4) ⟨by rw [upd_ne xl2]; exact w3.ob, by rw [upd_ne dl2]; exact w3.di, ⟨acc5, by rw [upd_ne w3.ne]; exact ha5, ra5⟩, ⟨_, upd_same, ?_⟩, w3.nx, w3.nd, w3.n1, w3.n2, w3.ne⟩
    rw [List.map_append]
    exact DpAll.append rb4 (.cons rz .nil)
end
end Vk

set_option Elab.async false
set_option linter.all false
set_option maxRecDepth 100000
set_option maxHeartbeats 4000000
/-! Watch.back_alone (printed by pw4.py). -/
namespace Vk
open PySem L2 StX
open SlX (SlO Slt slH SCls Slot1 putS SlR)
theorem cutD_take (ds : List PyData) (n : Nat) : cutD ds none (some (n : Int)) = ds.take n := by
  unfold cutD
  rw [HT.sIx_none, HT.sIx_nat, List.drop_zero, Nat.sub_zero]
  by_cases h : n ≤ ds.length
  · rw [Nat.min_eq_left h]
  · rw [Nat.min_eq_right (by omega), List.take_length, List.take_of_length_le (by omega)]
theorem cutD_drop (ds : List PyData) (n : Nat) : cutD ds (some (n : Int)) none = ds.drop n := by
  unfold cutD
  rw [HT.sIx_none, HT.sIx_nat]
  by_cases h : n ≤ ds.length
  · rw [Nat.min_eq_left h]
    exact List.take_of_length_le (by rw [List.length_drop]; exact Nat.le_refl _)
  · rw [Nat.min_eq_right (by omega), Nat.sub_self, List.take_zero, List.drop_of_length_le (by omega)]
section
variable {P : Program} {w : World} {K : PySem.W.Frag} {mg : Str → Option Value} {base : Heap} {T : Tb}
theorem ok_Watch_back_alone (c : Code K mg) (G_Watch_do : FnOk P w K mg base CX0 8 c.Watch_do.f c.Watch_do.fd ["self", "edit"] (spDo T K c.C)) : FnOk P w K mg base CX0 9 c.Watch_back_alone.f c.Watch_back_alone.fd ["self", "place"] (spBack T K c.C) := by
  refine fn_ok c.Watch_back_alone.F sc_Watch_back_alone (fun vs H Q E h => ?_) (fun cdv A' outer s H vs Q E hr h => ?_)
  · obtain ⟨_, _, _, _, _, _, rfl, _⟩ := h; rfl
  · obtain ⟨B, a, n, S, Es, s0, rfl, f, tk, wt, hhead, hn, hE, okE, q⟩ := h
    refine ⟨_, (pss_cons (ps_if (pt_not (pt_chain op_le op_lt pe_int (pv 1) (pe_callB (kLen (K := K) rfl) (by rfl) c.m_len (by decide +kernel) (pa_cons (kSl (K := K) rfl (pv 0)) pa_nil)))) (pss_one ps_never) pss_nil) (pss_cons (ps_set (i := 2) sc_Watch_back_alone.nd rfl (Or.inl rfl) (pe_op (kCatL (K := K) rfl) (pe_slice (kSlL (K := K) rfl) (kSl (K := K) rfl (pv 0)) po_none (po_some (pv 1))) (pe_slice (kSlL (K := K) rfl) (kSl (K := K) rfl (pv 0)) (po_some (pe_op op_add (pv 1) pe_int)) po_none))) (pss_cons (ps_asg (pe_tup (pa_cons (pe_slice (kSlL (K := K) rfl) (kSl (K := K) rfl (pv 0)) po_none (po_some pe_int)) (pa_cons (pe_lst pa_nil) pa_nil))) (kTupTg (K := K) rfl rfl (pgs_cons (pg_sl (pv 0)) (pgs_cons (pg_sl (pv 0)) pgs_nil)))) (pss_one (ps_for PassesOwn.never rfl (kPiL (K := K) rfl (kSz (K := K) rfl (pv 2))) (pg_name (i := 3) sc_Watch_back_alone.nd rfl (Or.inl rfl)) (pss_one (ps_expr (SlX.pe_methSl (E := E0) (pv 0) c.cl c.me_do (fnr G_Watch_do c.Watch_do.b) (hr.mono (by decide)) pass0 (pa_cons (pv 3) pa_nil))))))))), ?_⟩
    have s0' : St T B (cut a.ad H) B H := St.cut0 f
    obtain ⟨B2, sb2, f2, wf, back⟩ := wt.open f
    refine sd_if (b := false) f2 tk (et_not (et_test ((ed_chain (ed_int 0) (ed_var (d := .int n) rfl (.int _)) (ed_len (ds := Es.map dE) (ed_told wf rfl c.cl c.sl_own_told) (.inl rfl))).is (e := .bool true) (congrArg PyData.bool ?_)))) (fun z => by cases z) (fun _ H1 s1 => ?_)
    · rw [List.length_map, decide_eq_true (by omega), decide_eq_true (by omega)]; rfl
    have w1 := back H1 s1.sm s1.fz
    have s01 : St T B (cut a.ad H) B H1 := s0'.read sb2 ⟨s1.sm, Sub.refl _, s1.fz, s1.new⟩
    have tkc := wt.cuts.tok tk
    clear back wf f2
    -- the rest
    obtain ⟨acc2, hb1, rb1⟩ := w1.e
    refine ⟨_, rfl, a.x, c.C, a.dx, c.p1, _, 1, .ref a.l2, rfl, w1.slt, c.cl, c.sl_own_told, rfl, _, rfl, _, rfl, a.l2, acc2, rfl, SqL.of hb1, fun p1 n1 => ?_⟩
    have t1 := St.work (T := T) (o := .lst (cutV acc2 none (some (n : Int)))) s01.fz n1
    have w2 := w1.step t1
    obtain ⟨acc3, hb2, rb2⟩ := w2.e
    refine ⟨_, rfl, a.x, c.C, a.dx, c.p1, _, 1, .ref a.l2, rfl, w2.slt, c.cl, c.sl_own_told, rfl, .int (n : Int), rfl, (n : Int), 1, rfl, rfl, (n : Int) + 1, rfl, a.l2, acc3, rfl, SqL.of hb2, fun p2 n2 => ?_⟩
    have t2 := t1.trans (St.work (T := T) (o := .lst (cutV acc3 (some ((n : Int) + 1)) none)) t1.fz n2)
    have hp1 : upd (upd H1 p1 (.lst (cutV acc2 none (some (n : Int))))) p2 (.lst (cutV acc3 (some ((n : Int) + 1)) none)) p1 = some (.lst (cutV acc2 none (some (n : Int)))) := by
      rw [upd_ne (ne_of_none upd_same n2), upd_same]
    have rr : DpAll K B (cutV acc2 none (some (n : Int)) ++ cutV acc3 (some ((n : Int) + 1)) none) ((Es.eraseIdx n).map dE) := by
      have e1 : (Es.eraseIdx n).map dE = cutD (Es.map dE) none (some (n : Int)) ++ cutD (Es.map dE) (some ((n : Int) + 1)) none := by
        have : ((n : Int) + 1) = ((n + 1 : Nat) : Int) := by omega
        rw [this, cutD_take, cutD_drop, List.eraseIdx_eq_take_drop_succ, List.map_append, List.map_take, List.map_drop]
      rw [e1]
      exact DpAll.append (dp_cut rb1 _ _) (dp_cut rb2 _ _)
    refine ⟨p1, p2, _, _, rfl, rfl, SqL.of hp1, SqL.of upd_same, ?_, fun p3 n3 => ?_⟩
    · have := rr.length
      rw [List.length_append] at this
      rw [this, List.length_map, ← big_line]
      have := List.length_eraseIdx_le Es n
      omega
    have t3 := t2.trans (St.laid (T := T) (o := .lst (cutV acc2 none (some (n : Int)) ++ cutV acc3 (some ((n : Int) + 1)) none)) t2.fz n3 noT_lst)
    have rl := Dp.newL (K := K) (p := p3) (t2.fz.off n3) rr
    have w3 := w1.step t3
    have s03 := s01.trans t3
    generalize upd B p3 (.lst (cutV acc2 none (some (n : Int)) ++ cutV acc3 (some ((n : Int) + 1)) none)) = B3 at t3 rl w3 s03
    generalize upd (upd (upd H1 p1 (.lst (cutV acc2 none (some (n : Int))))) p2 (.lst (cutV acc3 (some ((n : Int) + 1)) none))) p3 (.lst (cutV acc2 none (some (n : Int)) ++ cutV acc3 (some ((n : Int) + 1)) none)) = H3 at t3 w3 s03 ⊢
    -- anew
    obtain ⟨acc, ha, ra⟩ := w3.s
    refine ⟨_, rfl, a.x, c.C, a.dx, c.p0, _, 0, .ref a.l1, rfl, w3.slt, c.cl, c.sl_own_states, rfl, 1, rfl, a.l1, acc, rfl, SqL.of ha, fun q1 m1 => ?_⟩
    have t4 := St.work (T := T) (o := .lst (cutV acc none (some 1))) s03.fz m1
    refine ⟨Nat.zero_le _, fun q2 m2 => ?_⟩
    have t5 := t4.trans (St.work (T := T) (o := .lst []) t4.fz m2)
    refine ⟨len2, fun q3 m3 => ?_⟩
    have t6 := t5.trans (St.work (T := T) (o := .tup [.ref q1, .ref q2]) t5.fz m3)
    have w4 := w3.step t6
    have s06 := s03.trans t6
    have hq1 : upd (upd (upd H3 q1 (.lst (cutV acc none (some 1)))) q2 (.lst [])) q3 (.tup [.ref q1, .ref q2]) q1 = some (.lst (cutV acc none (some 1))) := by
      have e1 : upd H3 q1 (.lst (cutV acc none (some 1))) q1 = some (.lst (cutV acc none (some 1))) := upd_same
      have e2 : upd (upd H3 q1 (.lst (cutV acc none (some 1)))) q2 (.lst []) q1 = some (.lst (cutV acc none (some 1))) := by rw [upd_ne (ne_of_none e1 m2)]; exact e1
      rw [upd_ne (ne_of_none e2 m3)]; exact e2
    have hq2 : upd (upd (upd H3 q1 (.lst (cutV acc none (some 1)))) q2 (.lst [])) q3 (.tup [.ref q1, .ref q2]) q2 = some (.lst []) := by
      have e1 : upd (upd H3 q1 (.lst (cutV acc none (some 1)))) q2 (.lst []) q2 = some (.lst []) := upd_same
      rw [upd_ne (ne_of_none e1 m3)]; exact e1
    have q12 : q1 ≠ q2 := ne_of_none (H := upd H3 q1 (.lst (cutV acc none (some 1)))) upd_same m2
    have nq1 : Nn (cut a.ad H) q1 := Nn.old s03 (Nn.of m1)
    have nq2 : Nn (cut a.ad H) q2 := Nn.old (s03.trans t4) (Nn.of m2)
    have bq1 : B3 q1 = none := s03.fz.off m1
    have bq2 : B3 q2 = none := t4.fz.off m2
    have hq3 : SqT K (upd (upd (upd H3 q1 (.lst (cutV acc none (some 1)))) q2 (.lst [])) q3 (.tup [.ref q1, .ref q2])) q3 [.ref q1, .ref q2] := SqT.of upd_same
    generalize upd (upd (upd H3 q1 (.lst (cutV acc none (some 1)))) q2 (.lst [])) q3 (.tup [.ref q1, .ref q2]) = H6 at w4 s06 hq1 hq2 hq3 ⊢
    have xd : a.x ≠ a.dx := ne_of w4.ob w4.di fun z => by unfold SlO at z; cases z
    have xq1 : a.x ≠ q1 := ne_of w4.ob hq1 fun z => by unfold SlO at z; cases z
    have xq2 : a.x ≠ q2 := ne_of w4.ob hq2 fun z => by unfold SlO at z; cases z
    have dq1 : a.dx ≠ q1 := ne_of w4.di hq1 fun z => by cases z
    have dq2 : a.dx ≠ q2 := ne_of w4.di hq2 fun z => by cases z
    have mx : a.x ∈ a.ad := by simp [WA.ad]
    have md : a.dx ∈ a.ad := by simp [WA.ad]
    have s07 : St T B (cut a.ad H) B3 (slH H6 a.x c.C a.dx (sl2 q1 a.l2)) := by
      unfold slH
      exact (s06.mutX (u := .xd []) (cut_in md) w4.nd w4.di noT_xd nc_xd).mutX (cut_in mx) w4.nx (by rw [upd_ne xd]; exact w4.ob) noT_slO (nc_slo (rs := [a.l1, a.l2]))
    have hx7 : slH H6 a.x c.C a.dx (sl2 q1 a.l2) a.x = some (SlO a.x c.C a.dx (sl2 q1 a.l2)) := slH_x
    have hd7 : slH H6 a.x c.C a.dx (sl2 q1 a.l2) a.dx = some (.xd []) := slH_d xd.symm
    have s08 : St T B (cut a.ad H) B3 (slH (slH H6 a.x c.C a.dx (sl2 q1 a.l2)) a.x c.C a.dx (sl2 q1 q2)) := by
      have e : ∀ H' : Hp, slH H' a.x c.C a.dx (sl2 q1 q2) = upd (upd H' a.dx (.xd [])) a.x (SlO a.x c.C a.dx (sl2 q1 q2)) := fun _ => rfl
      rw [e]
      exact (s07.mutX (u := .xd []) (cut_in md) w4.nd hd7 noT_xd nc_xd).mutX (cut_in mx) w4.nx (by rw [upd_ne xd]; exact hx7) noT_slO (nc_slo (rs := [q1, a.l2]))
    refine ⟨q3, _, rfl, hq3, rfl, .ref q1, _, rfl, ⟨_, rfl, a.x, c.C, a.dx, c.p0, _, 0, rfl, w4.slt, c.cl, c.sl_own_states, .ref q2, _, rfl, ⟨_, rfl, a.x, c.C, a.dx, c.p1, _, 1, rfl, .inr ⟨hx7, hd7⟩, c.cl, c.sl_own_told, rfl, ?_⟩⟩⟩
    show _
    show Ends.nx _ _ (slH (slH H6 a.x c.C a.dx (sl2 q1 a.l2)) a.x c.C a.dx (sl2 q1 q2))
    have hhd : S = s0 :: S.tail := by
      cases S with
      | nil => cases hhead
      | cons x l => cases hhead; rfl
    have w8 : Wt K c.C B3 (slH (slH H6 a.x c.C a.dx (sl2 q1 a.l2)) a.x c.C a.dx (sl2 q1 q2)) ⟨a.x, a.dx, q1, q2⟩ [s0] [] := by
      refine ⟨slH_x, slH_d xd.symm, ⟨cutV acc none (some 1), ?_, ?_⟩, ⟨[], ?_, .nil⟩, w4.nx, w4.nd, bq1, bq2, q12⟩
      · rw [SlX.slH_ne xq1.symm dq1.symm, SlX.slH_ne xq1.symm dq1.symm]; exact hq1
      · have := dp_cut ra none (some ((1 : Nat) : Int))
        rw [cutD_take, hhd] at this
        exact this
      · rw [SlX.slH_ne xq2.symm dq2.symm, SlX.slH_ne xq2.symm dq2.symm]; exact hq2
    generalize slH (slH H6 a.x c.C a.dx (sl2 q1 a.l2)) a.x c.C a.dx (sl2 q1 q2) = H8 at s08 w8 ⊢
    refine sd_forL (σ := [some (.ref a.x), some (.int (n : Int)), some (.ref p3), none]) (enc := dE) (xs := Es.eraseIdx n) s08.fz (s08.ok tkc) (ed_var (i := 2) rfl rl) fun B9 H9 s9 => ?_
    refine ⟨fun i σ' H' => ∃ o3 B', σ' = [some (.ref a.x), some (.int (n : Int)), some (.ref p3), o3] ∧ St T B (cut a.ad H) B' H' ∧ Sub B9 B' ∧ Wt K c.C B' H' ⟨a.x, a.dx, q1, q2⟩ (s0 :: runE s0 ((Es.eraseIdx n).take i)) ((Es.eraseIdx n).take i), ?_, ?_, ?_, ?_⟩
    · exact ⟨none, B9, rfl, s08.trans s9, Sub.refl _, w8.step s9⟩
    · rintro i σ' H' ⟨_, B', _, s, sb, _⟩
      exact s.fz.sub sb
    · rintro i e v1 σ' H' hx rx ⟨o3, B', rfl, s, sb, wi⟩
      obtain ⟨s', hs'⟩ : ∃ s', (s0 :: runE s0 ((Es.eraseIdx n).take i)).getLast? = some s' := ⟨_, List.getLast?_eq_some_getLast (by simp)⟩
      have e1 : (Es.eraseIdx n).take (i + 1) = (Es.eraseIdx n).take i ++ [e] := by rw [List.take_succ, hx]; rfl
      have lt : ((Es.eraseIdx n).take i).length < 900 := by
        have h1 := List.length_eraseIdx_le Es n
        rw [List.length_take]; omega
      refine ⟨_, rfl, a.x, a.dx, _, rfl, wi.slt, v1, rfl, B', ⟨a.x, a.dx, q1, q2⟩, v1, _, _, s', e, rfl, s.fz, s.ok tkc, wi, Dp.sub sb _ _ rx, hs', okE_at okE hx hs', by rw [List.length_cons, runE_len]; omega, by omega, fun B10 H10 s10 w10 => ?_⟩
      have nall : ∀ b ∈ (WA.mk a.x a.dx q1 q2).ad, Nn (cut a.ad H) b := fun b hb => by
        unfold WA.ad at hb
        rcases List.mem_cons.mp hb with rfl | hb
        · exact Nn.of (cut_in mx)
        rcases List.mem_cons.mp hb with rfl | hb
        · exact Nn.of (cut_in md)
        rcases List.mem_cons.mp hb with rfl | hb
        · exact nq1
        · rw [List.mem_singleton.mp hb]; exact nq2
      refine ⟨_, B10, rfl, s.cutTrans nall wi.cuts s10, sb.trans s10.sub, ?_⟩
      rw [e1, runE_app _ _ _ _ hs']
      exact w10
    · rintro σ' H' ⟨o3, B', rfl, s, sb, wi⟩
      rw [List.take_length] at wi
      exact q B' H' ⟨a.x, a.dx, q1, q2⟩ rfl rfl nq1 nq2 s wi
end
end Vk

set_option Elab.async false
set_option linter.all false
set_option maxRecDepth 100000
set_option maxHeartbeats 4000000
/-! The law's box of numbers (printed by pb.py). -/
namespace Vk
open PySem L2 StX
section
variable {T : Tb} {K : PySem.W.Frag} {σ : L2.St} {B H B0 H0 : Hp} {ta tb te : TE} {i j : Int} {l : Addr} {bs : List Int} {D : Ends}
theorem ed_opC {C : Int → Int → Prop} {d : PyData} {g : Int → Int → V} (h : ED T K ta σ B (.int i)) (h2 : ED T K tb σ B (.int j)) (hc : C i j) (hd : ∀ B, Dp K B (g i j) d) : ED T K (tOp (rI C g) ta tb) σ B d := ed_op h h2 fun B1 H1 v w Q f r1 r2 q => by
  cases r1
  cases r2
  exact ⟨i, j, rfl, rfl, hc, q _ (hd B1)⟩
theorem ed_mulI (h : ED T K ta σ B (.int i)) (h2 : ED T K tb σ B (.int j)) (hc : CMul i j) : ED T K (tOp (rI CMul fun i j => .int (i * j)) ta tb) σ B (.int (i * j)) := ed_opC h h2 hc fun _ => .int _
theorem ed_modI (h : ED T K ta σ B (.int i)) (h2 : ED T K tb σ B (.int j)) (hc : 0 < j) : ED T K (tOp (rI (fun _ j => 0 < j) fun i j => .int (i % j)) ta tb) σ B (.int (i % j)) := ed_opC h h2 hc fun _ => .int _
theorem ed_divI (h : ED T K ta σ B (.int i)) (h2 : ED T K tb σ B (.int j)) (hc : CDiv i j) : ED T K (tOp (rI CDiv fun i j => .int (i / j)) ta tb) σ B (.int (i / j)) := ed_opC h h2 hc fun _ => .int _
theorem ed_powI (h : ED T K ta σ B (.int i)) (h2 : ED T K tb σ B (.int j)) (hc : CPow i j) : ED T K (tOp (rI CPow fun i j => .int (i ^ j.toNat)) ta tb) σ B (.int (i ^ j.toNat)) := ed_opC h h2 hc fun _ => .int _
abbrev rInt1 : List V → Hp → VK → Prop := fun xs H Q => (∃ i, xs = [.int i] ∧ Q (.int i) H) ∨ ∃ k, xs = [.bl k] ∧ Q (.int (if k then 1 else 0)) H
theorem ed_intI (h : ED T K te σ B (.int i)) : ED T K (tCB rInt1 (tCons te tNil)) σ B (.int i) := ed_cb (eda_cons h eda_nil) fun B1 H1 vs Q f tk r q => by
  obtain ⟨v, rfl, w⟩ := dpAll1 r
  cases w
  exact .inl ⟨i, rfl, q _ B1 H1 (St.refl f) (.int _)⟩
theorem ed_intB {b : Bool} (h : ED T K te σ B (.bool b)) : ED T K (tCB rInt1 (tCons te tNil)) σ B (.int (if b then 1 else 0)) := ed_cb (eda_cons h eda_nil) fun B1 H1 vs Q f tk r q => by
  obtain ⟨v, rfl, w⟩ := dpAll1 r
  cases w
  exact .inr ⟨b, rfl, q _ B1 H1 (St.refl f) (.int _)⟩
theorem ed_abs (h : ED T K te σ B (.int i)) : ED T K (tCB (fun xs H Q => ∃ i, xs = [.int i] ∧ Q (.int (if i < 0 then -i else i)) H) (tCons te tNil)) σ B (.int (if i < 0 then -i else i)) := ed_cb (eda_cons h eda_nil) fun B1 H1 vs Q f tk r q => by
  obtain ⟨v, rfl, w⟩ := dpAll1 r
  cases w
  exact ⟨i, rfl, q _ B1 H1 (St.refl f) (.int _)⟩
/-- the list of numbers at l, outside of B; B0, H0: the start -/
structure Bw (T : Tb) (l : Addr) (B0 H0 : Hp) (bs : List Int) (B H : Hp) : Prop where
  st : St T B0 (cut [l] H0) B H
  nB : B l = none
  at_ : H l = some (.lst (bs.map V.int))
theorem dp_ints : ∀ bs : List Int, DpAll K B (bs.map V.int) (bs.map PyData.int)
  | [] => .nil
  | b :: bs => .cons (.int b) (dp_ints bs)
theorem Bw.start (f : Fz B H) (nB : B l = none) (h : H l = some (.lst (bs.map V.int))) : Bw T l B H bs B H := ⟨St.cut0 f, nB, h⟩
theorem Bw.step {B' H' : Hp} (m : Bw T l B0 H0 bs B H) (s : St T B H B' H') : Bw T l B0 H0 bs B' H' := by
  obtain ⟨nB, h⟩ := s.keepL noT_lst m.nB m.at_
  exact ⟨m.st.trans s, nB, h⟩
theorem Bw.open (m : Bw T l B0 H0 bs B H) : ∃ B2, Sub B B2 ∧ Fz B2 H ∧ Dp K B2 (.ref l) (.list (bs.map .int)) ∧ ∀ H2, St T B2 H B2 H2 → Bw T l B0 H0 bs B H2 :=
  ⟨upd B l (.lst (bs.map V.int)), Sub.withL m.nB, m.st.fz.withL noT_lst m.at_, Dp.newL m.nB (dp_ints bs), fun H2 s => ⟨m.st.read (Sub.withL m.nB) s, m.nB, s.sm.ext l _ m.at_ noT_lst⟩⟩
theorem Bw.set {bs' : List Int} (m : Bw T l B0 H0 bs B H) : Bw T l B0 H0 bs' B (upd H l (.lst (bs'.map V.int))) :=
  ⟨m.st.mut (cut_in (by simp)) m.nB m.at_, m.nB, upd_same⟩
theorem sb_asg {k : Nat} (m : Bw T l B0 H0 bs B H) (tk : TOk T (cut [l] H0)) (h : ∀ B2, Dp K B2 (.ref l) (.list (bs.map .int)) → ED T K te σ B2 (.int i)) (q : ∀ H2, Bw T l B0 H0 bs B H2 → D.nx (σ.set k (some (.int i))) H2) : tAsg te (gName k) D σ H := by
  obtain ⟨B2, sb, f2, r2, back⟩ := m.open (K := K)
  refine sd_asg f2 (m.st.ok tk) (h B2 r2) fun v B' H' s r => ?_
  cases r
  exact q H' (back H' s.back)
theorem sb_set {k n : Nat} (m : Bw T l B0 H0 bs B H) (tk : TOk T (cut [l] H0)) (h : ∀ B2, Dp K B2 (.ref l) (.list (bs.map .int)) → ED T K te σ B2 (.int i)) (hv : σ[n]? = some (some (.ref l))) (hk : k < bs.length) (q : ∀ H2, Bw T l B0 H0 (bs.set k i) B H2 → D.nx σ H2) :
    tAsg te (gSub (tVar n) (tC (.int k)) rSetL) D σ H := by
  obtain ⟨B2, sb, f2, r2, back⟩ := m.open (K := K)
  refine h B2 r2 H f2 (m.st.ok tk) _ fun v B' H' s r => ?_
  cases r
  have m' := back H' s.back
  refine ⟨_, hv, l, _, (k : Int), k, rfl, rfl, m'.at_, ?_, ?_⟩
  · unfold ixN
    rw [if_pos (by omega), if_pos (by rw [List.length_map]; omega)]
    rfl
  · have e : (bs.map V.int).set k (.int i) = (bs.set k i).map V.int := by rw [List.map_set]
    rw [e]
    exact q _ m'.set
theorem sb_if {b : Bool} {tt : TT} {t u : TS} (m : Bw T l B0 H0 bs B H) (tk : TOk T (cut [l] H0)) (h : ∀ B2, Dp K B2 (.ref l) (.list (bs.map .int)) → ETT T tt σ B2 b) (h1 : b = true → ∀ H2, Bw T l B0 H0 bs B H2 → t D σ H2) (h2 : b = false → ∀ H2, Bw T l B0 H0 bs B H2 → u D σ H2) : tIfS tt t u D σ H := by
  obtain ⟨B2, sb, f2, r2, back⟩ := m.open (K := K)
  exact sd_if f2 (m.st.ok tk) (h B2 r2) (fun hb H2 s => h1 hb H2 (back H2 s)) fun hb H2 s => h2 hb H2 (back H2 s)
theorem sb_ret (m : Bw T l B0 H0 bs B H) (tk : TOk T (cut [l] H0)) (h : ∀ B2, Dp K B2 (.ref l) (.list (bs.map .int)) → ED T K te σ B2 (.int i)) (q : ∀ H2, Bw T l B0 H0 bs B H2 → D.rt (.int i) H2) : tRet te D σ H := by
  obtain ⟨B2, sb, f2, r2, back⟩ := m.open (K := K)
  refine sd_ret f2 (m.st.ok tk) (h B2 r2) fun v B' H' s r => ?_
  cases r
  exact q H' (back H' s.back)
end
/-- the box: what is left, the seed, how often it was asked; n more times may it be asked -/
structure Bo (n : Nat) (bs : List Int) : Prop where
  ex : ∃ b0 b1 b2 : Int, bs = [b0, b1, b2] ∧ 0 ≤ b1 ∧ b1 < 2 ^ 62 ∧ 0 ≤ b2 ∧ b2 + n ≤ 1000000
/-- a step that may change the box -/
structure SB (T : Tb) (l : Addr) (n : Nat) (B H B' H' : Hp) : Prop where
  st : St T B (cut [l] H) B' H'
  nB : B' l = none
  bo : ∃ bs, Bo n bs ∧ H' l = some (.lst (bs.map V.int))
def Bx (l : Addr) (n : Nat) (B H : Hp) : Prop := B l = none ∧ ∃ bs, Bo n bs ∧ H l = some (.lst (bs.map V.int))
section
variable {T : Tb} {l : Addr} {n m : Nat} {B H B' H' B2 H2 : Hp}
theorem SB.bx (s : SB T l n B H B' H') : Bx l n B' H' := ⟨s.nB, s.bo⟩
theorem Bo.less {bs : List Int} (h : m ≤ n) (b : Bo n bs) : Bo m bs := by
  obtain ⟨b0, b1, b2, e, h1, h2, h3, h4⟩ := b.ex
  exact ⟨b0, b1, b2, e, h1, h2, h3, by omega⟩
theorem Bx.less (h : m ≤ n) (b : Bx l n B H) : Bx l m B H := ⟨b.1, let ⟨bs, h1, h2⟩ := b.2; ⟨bs, h1.less h, h2⟩⟩
theorem Bx.cuts (b : Bx l n B H) : Cuts [l] H := fun c hc => by
  obtain ⟨bs, _, h⟩ := b.2
  rw [List.mem_singleton.mp hc]
  exact ⟨_, h, noT_lst, nc_lst⟩
theorem Bx.step (b : Bx l n B H) (s : St T B H B' H') : Bx l n B' H' := by
  obtain ⟨bs, h1, h2⟩ := b.2
  obtain ⟨nB, h⟩ := s.keepL noT_lst b.1 h2
  exact ⟨nB, bs, h1, h⟩
theorem SB.of (f : Fz B H) (b : Bx l n B H) (s : St T B H B' H') : SB T l n B H B' H' := by
  have b' := b.step s
  exact ⟨(St.cut0 f).trans s, b'.1, b'.2⟩
theorem SB.less (h : m ≤ n) (s : SB T l n B H B' H') : SB T l m B H B' H' := ⟨s.st, s.nB, let ⟨bs, h1, h2⟩ := s.bo; ⟨bs, h1.less h, h2⟩⟩
theorem SB.trans (s : SB T l m B H B' H') (s2 : SB T l n B' H' B2 H2) : SB T l n B H B2 H2 :=
  ⟨s.st.cutTrans (fun b hb => Nn.of (by rw [List.mem_singleton.mp hb]; exact cut_in (by simp))) s.bx.cuts s2.st, s2.nB, s2.bo⟩
theorem SB.ok (s : SB T l n B H B' H') (b : Bx l m B H) (tk : TOk T H) : TOk T H' := s.st.ok (b.cuts.tok tk)
theorem SB.then (s : SB T l n B H B' H') (s2 : St T B' H' B2 H2) : SB T l n B H B2 H2 := s.trans (SB.of s.st.fz s.bx s2)
end
def spTake (T : Tb) (K : PySem.W.Frag) : Sp := fun vs H Q _ => ∃ (B : Hp) (l : Addr) (top : Int) (n : Nat), vs = [.ref l, .int top] ∧ Fz B H ∧ TOk T H ∧ Bx l (n + 1) B H ∧ 0 < top ∧ top ≤ 1000 ∧ ∀ (r : Nat) H', (r : Int) < top → SB T l n B H B H' → Q (.int r) H'
/-- asks the box at most k times, data d behind -/
def spB (T : Tb) (K : PySem.W.Frag) (k : Nat) (A : List PyData → (PyData → Prop) → Prop) : Sp := fun vs H Q _ => ∃ (B : Hp) (l : Addr) (n : Nat) (us : List V) (ds : List PyData) (Pd : PyData → Prop), vs = .ref l :: us ∧ Fz B H ∧ TOk T H ∧ Bx l (n + k) B H ∧ DpAll K B us ds ∧ A ds Pd ∧ ∀ v d B' H', Pd d → SB T l n B H B' H' → Dp K B' v d → Q v H'
section
variable {P : Program} {w : World} {K : PySem.W.Frag} {mg : Str → Option Value} {base : Heap} {T : Tb}
theorem ok_take (c : Code K mg) : FnOk P w K mg base CX0 1 c._law_take.f c._law_take.fd ["_law_box_here", "_law_top_so"] (spTake T K) := by
  refine fn_ok c._law_take.F sc__law_take (fun vs H Q E h => ?_) (fun cdv A' outer s H vs Q E hr h => ?_)
  · obtain ⟨_, _, _, _, rfl, _⟩ := h; rfl
  · obtain ⟨B, l, top, n, rfl, f, tk, bxx, h0, h1, q⟩ := h
    refine ⟨_, (pss_cons (ps_if (pt_cmpR op_gt (pe_ix (kIxL (K := K) rfl) (pv 0) pe_int (fun _ _ => rfl)) pe_int (nomark _)) (pss_cons (ps_set (i := 2) sc__law_take.nd rfl (Or.inl rfl) (pe_op op_mod (pe_callTy call_int1 (by rfl) c.m_int (by decide +kernel) (pa_cons (pe_ix (kIxL (K := K) rfl) (pv 0) pe_int (fun _ _ => rfl)) pa_nil)) (pv 1))) (pss_cons (ps_asg (pe_op op_fdiv (pe_ix (kIxL (K := K) rfl) (pv 0) pe_int (fun _ _ => rfl)) (pv 1)) (pg_sub (pv 0) pe_int set_list)) (pss_one (ps_ret (pv 2))))) pss_nil) (pss_cons (ps_asg (pe_op op_add (pe_ix (kIxL (K := K) rfl) (pv 0) pe_int (fun _ _ => rfl)) pe_int) (pg_sub (pv 0) pe_int set_list)) (pss_cons (ps_set (i := 3) sc__law_take.nd rfl (Or.inl rfl) (pe_op op_mod (pe_callTy call_int1 (by rfl) c.m_int (by decide +kernel) (pa_cons (pe_op op_mul (pe_op op_add (pe_ix (kIxL (K := K) rfl) (pv 0) pe_int (fun _ _ => rfl)) (pe_op op_mul pe_int (pe_ix (kIxL (K := K) rfl) (pv 0) pe_int (fun _ _ => rfl)))) (pe_op op_add pe_int (pe_ix (kIxL (K := K) rfl) (pv 0) pe_int (fun _ _ => rfl)))) pa_nil)) pe_int)) (pss_cons (ps_set (i := 4) sc__law_take.nd rfl (Or.inl rfl) (pe_op op_add (pe_op op_mod (pe_callTy call_int1 (by rfl) c.m_int (by decide +kernel) (pa_cons (pv 3) pa_nil)) pe_int) pe_int)) (pss_cons (ps_set (i := 5) sc__law_take.nd rfl (Or.inl rfl) (pe_op op_mod (pe_callTy call_int1 (by rfl) c.m_int (by decide +kernel) (pa_cons (pe_op op_mul (pe_op op_add (pe_op op_add (pv 3) (pe_ix (kIxL (K := K) rfl) (pv 0) pe_int (fun _ _ => rfl))) (pe_op op_fdiv (pe_ix (kIxL (K := K) rfl) (pv 0) pe_int (fun _ _ => rfl)) pe_int)) (pv 4)) pa_nil)) pe_int)) (pss_one (ps_ret (pe_op op_mod (pe_callTy call_int1 (by rfl) c.m_int (by decide +kernel) (pa_cons (pe_op op_fdiv (pe_op op_mod (pe_callTy call_int1 (by rfl) c.m_int (by decide +kernel) (pa_cons (pe_op op_add (pe_op op_mul (pv 5) pe_int) (pv 3)) pa_nil)) pe_int) pe_int) pa_nil)) (pv 1))))))))), ?_⟩
    have tkc := bxx.cuts.tok tk
    obtain ⟨nB, bs, ⟨b0, b1, b2, rfl, hb1, hb2, hb3, hb4⟩, hl⟩ := bxx
    have m0 : Bw T l B H [b0, b1, b2] B H := Bw.start f nB hl
    have fin : ∀ (r : Int) (bs : List Int) (H' : Hp), 0 ≤ r → r < top → Bo n bs → Bw T l B H bs B H' → Q (.int r) H' := fun r bs H' g1 g2 g3 m => by
      obtain ⟨k, rfl⟩ : ∃ k : Nat, r = k := ⟨r.toNat, by omega⟩
      exact q k H' g2 ⟨m.st, m.nB, bs, g3, m.at_⟩
    refine sb_if (K := K) (b := decide (0 < b0)) m0 tkc (fun B2 r2 => et_test (ed_gtI (ed_ixL (d := .int b0) (ed_var rfl r2) (ed_int 0) rfl) (ed_int 0))) (fun hb H1 m1 => ?_) (fun hb H1 m1 => ?_)
    · refine sb_asg (K := K) (i := b0 % top) m1 tkc (fun B2 r2 => ed_modI (ed_intI (ed_ixL (d := .int b0) (ed_var rfl r2) (ed_int 0) rfl)) (ed_var rfl (.int top)) h0) fun H2 m2 => ?_
      refine sb_set (K := K) (k := 0) (i := b0 / top) m2 tkc (fun B2 r2 => ed_divI (ed_ixL (d := .int b0) (ed_var rfl r2) (ed_int 0) rfl) (ed_var rfl (.int top)) ⟨h0, by omega⟩) rfl (by show 0 < 3; decide) fun H3 m3 => ?_
      refine sb_ret (K := K) (i := b0 % top) m3 tkc (fun B2 r2 => ed_var rfl (.int _)) fun H4 m4 => ?_
      exact fin _ [b0 / top, b1, b2] H4 (Int.emod_nonneg _ (by omega)) (Int.emod_lt_of_pos _ h0) ⟨_, _, _, rfl, hb1, hb2, hb3, by omega⟩ m4
    · refine sb_set (K := K) (k := 2) (i := b2 + 1) m1 tkc (fun B2 r2 => ed_addI (ed_ixL (d := .int b2) (ed_var rfl r2) (ed_int 2) rfl) (ed_int 1)) rfl (by show 2 < 3; decide) fun H2 m2 => ?_
      generalize hc : b2 + 1 = c2 at m2
      have m2 : Bw T l B H [b0, b1, c2] B H2 := m2
      refine sb_asg (K := K) (i := ((b1 + 48271 * c2) * (39373 + c2)) % 2147483647) m2 tkc (fun B2 r2 => ed_modI (ed_intI (ed_mulI (ed_addI (ed_ixL (d := .int b1) (ed_var rfl r2) (ed_int 1) rfl) (ed_mulI (ed_int 48271) (ed_ixL (d := .int c2) (ed_var rfl r2) (ed_int 2) rfl) (.inl (by decide)))) (ed_addI (ed_int 39373) (ed_ixL (d := .int c2) (ed_var rfl r2) (ed_int 2) rfl)) (.inr (by omega)))) (ed_int 2147483647) (by decide)) fun H3 m3 => ?_
      generalize ho : ((b1 + 48271 * c2) * (39373 + c2)) % 2147483647 = on at m3
      refine sb_asg (K := K) (i := on % 40009 + 7) m3 tkc (fun B2 r2 => ed_addI (ed_modI (ed_intI (ed_var rfl (.int on))) (ed_int 40009) (by decide)) (ed_int 7)) fun H4 m4 => ?_
      have f1 : 0 ≤ on % 40009 := Int.emod_nonneg _ (by decide)
      have f2 : on % 40009 < 40009 := Int.emod_lt_of_pos _ (by decide)
      generalize hf : on % 40009 + 7 = fa at m4
      refine sb_asg (K := K) (i := ((on + c2 + b1 / 1000003) * fa) % 2147483629) m4 tkc (fun B2 r2 => ed_modI (ed_intI (ed_mulI (ed_addI (ed_addI (ed_var rfl (.int on)) (ed_ixL (d := .int c2) (ed_var rfl r2) (ed_int 2) rfl)) (ed_divI (ed_ixL (d := .int b1) (ed_var rfl r2) (ed_int 1) rfl) (ed_int 1000003) ⟨by decide, by decide⟩)) (ed_var rfl (.int fa)) (.inr (by omega)))) (ed_int 2147483629) (by decide)) fun H5 m5 => ?_
      have a1 : 0 ≤ ((on + c2 + b1 / 1000003) * fa) % 2147483629 := Int.emod_nonneg _ (by decide)
      have a2 : ((on + c2 + b1 / 1000003) * fa) % 2147483629 < 2147483629 := Int.emod_lt_of_pos _ (by decide)
      generalize ((on + c2 + b1 / 1000003) * fa) % 2147483629 = ag at m5 a1 a2
      refine sb_ret (K := K) (i := ((ag * 48271 + on) % 2147483587 / 64) % top) m5 tkc (fun B2 r2 => ed_modI (ed_intI (ed_divI (ed_modI (ed_intI (ed_addI (ed_mulI (ed_var rfl (.int ag)) (ed_int 48271) (.inr (by decide))) (ed_var rfl (.int on)))) (ed_int 2147483587) (by decide)) (ed_int 64) ⟨by decide, by decide⟩)) (ed_var rfl (.int top)) h0) fun H6 m6 => ?_
      exact fin _ [b0, b1, c2] H6 (Int.emod_nonneg _ (by omega)) (Int.emod_lt_of_pos _ h0) ⟨_, _, _, rfl, hb1, hb2, by omega, by omega⟩ m6
end
end Vk

set_option Elab.async false
set_option linter.all false
set_option maxRecDepth 100000
set_option maxHeartbeats 4000000
/-! Readings that ask the box. -/
namespace Vk
open PySem L2 StX
open PySem.W (EachIs)
/-- what is read, with the box asked at most k times, has A -/
def EDX (T : Tb) (K : PySem.W.Frag) (l : Addr) (k : Nat) (te : TE) (σ : L2.St) (B : Hp) (A : PyData → Prop) : Prop := ∀ n B1 H, Sub B B1 → Fz B1 H → TOk T H → Bx l (n + k) B1 H → ∀ Q : VK, (∀ v d B' H', A d → SB T l n B1 H B' H' → Dp K B' v d → Q v H') → te σ H Q
def EDAX (T : Tb) (K : PySem.W.Frag) (l : Addr) (k : Nat) (ta : TA) (σ : L2.St) (B : Hp) (A : List PyData → Prop) : Prop := ∀ n B1 H, Sub B B1 → Fz B1 H → TOk T H → Bx l (n + k) B1 H → ∀ Q : List V → Hp → Prop, (∀ vs ds B' H', A ds → SB T l n B1 H B' H' → DpAll K B' vs ds → Q vs H') → ta σ H Q
def ETX (T : Tb) (l : Addr) (k : Nat) (tt : TT) (σ : L2.St) (B : Hp) : Prop := ∀ n B1 H, Sub B B1 → Fz B1 H → TOk T H → Bx l (n + k) B1 H → ∀ Q : Bool → Hp → Prop, (∀ b H', SB T l n B1 H B1 H' → Q b H') → tt σ H Q
section
variable {T : Tb} {K : PySem.W.Frag} {l : Addr} {k k2 : Nat} {σ : L2.St} {B B2 : Hp} {te ta tb : TE} {t : TA} {A A2 : PyData → Prop} {d : PyData} {ds : List PyData} {n m : Nat} {H B' H' : Hp}
theorem EDX.sub (s : Sub B B2) (h : EDX T K l k te σ B A) : EDX T K l k te σ B2 A := fun n B1 H sb => h n B1 H (s.trans sb)
theorem EDX.imp (h : EDX T K l k te σ B A) (q : ∀ d, A d → A2 d) : EDX T K l k te σ B A2 := fun n B1 H sb f tk b Q w => h n B1 H sb f tk b Q fun v d B' H' a => w v d B' H' (q d a)
theorem EDX.of (h : ED T K te σ B d) (a : A d) : EDX T K l k te σ B A := fun n B1 H sb f tk b Q w =>
  h.sub sb H f tk Q fun v B' H' s r => w v d B' H' a (SB.of f (b.less (Nat.le_add_right _ _)) s) r
theorem edax_nil : EDAX T K l 0 tNil σ B (fun ds => ds = []) := fun n B1 H sb f tk b Q w => w [] [] B1 H rfl (SB.of f b (St.refl f)) .nil
theorem edax_cons {A2 : List PyData → Prop} (h : EDX T K l k te σ B A) (h2 : EDAX T K l k2 t σ B A2) : EDAX T K l (k + k2) (tCons te t) σ B (fun ds => ∃ d es, ds = d :: es ∧ A d ∧ A2 es) := fun n B1 H sb f tk b Q w =>
  h (n + k2) B1 H sb f tk (by rw [Nat.add_assoc, Nat.add_comm k2 k]; exact b) _ fun v d B3 H3 a s r => h2 n B3 H3 (sb.trans s.st.sub) s.st.fz (s.ok b tk) s.bx _ fun vs es B4 H4 a2 s2 r2 => w _ (d :: es) B4 H4 ⟨d, es, rfl, a, a2⟩ (s.trans s2) (.cons (Dp.sub s2.st.sub _ _ r) r2)
theorem edax_of (h : EDA T K t σ B ds) {A : List PyData → Prop} (a : A ds) : EDAX T K l 0 t σ B A := fun n B1 H sb f tk b Q w =>
  h.sub sb H f tk Q fun vs B' H' s r => w vs ds B' H' a (SB.of f b s) r
theorem edx_tup {A2 : List PyData → Prop} (h : EDAX T K l k t σ B A2) (hl : ∀ ds, A2 ds → ds.length ≤ sizeLine) : EDX T K l k (tTup t) σ B (fun d => ∃ ds, A2 ds ∧ d = .tuple ds) := fun n B1 H sb f tk b Q w =>
  h n B1 H sb f tk b _ fun vs ds B3 H3 a s r => ⟨by rw [r.length]; exact hl ds a, fun p np => w _ _ _ _ ⟨ds, a, rfl⟩ (s.then (St.laid s.st.fz np noT_tup)) (Dp.newT (s.st.fz.off np) r)⟩
/-- take(box, top) -/
theorem edx_take {i : Nat} {top : Int} {E : XK} (hv : σ[i]? = some (some (.ref l))) (h : ED T K te σ B (.int top)) (h0 : 0 < top) (h1 : top ≤ 1000) : EDX T K l 1 (tCall (spTake T K) [] E (tCons (tVar i) (tCons te tNil))) σ B (fun d => ∃ r : Nat, (r : Int) < top ∧ d = .int r) := fun n B1 H sb f tk b Q w =>
  ⟨_, hv, h.sub sb H f tk _ fun v B' H' s r => by
    cases r
    refine ⟨B', l, top, n, rfl, s.fz, s.ok tk, b.step s, h0, h1, fun r H2 hr s2 => w _ _ B' H2 ⟨r, hr, rfl⟩ ((SB.of f b s).trans s2) (.int _)⟩⟩
theorem edx_call {i : Nat} {A0 : List PyData → (PyData → Prop) → Prop} {E : XK} (hv : σ[i]? = some (some (.ref l))) (h : EDA T K t σ B ds) (hA : A0 ds A) : EDX T K l k (tCall (spB T K k A0) [] E (tCons (tVar i) t)) σ B A := fun n B1 H sb f tk b Q w =>
  ⟨_, hv, h.sub sb H f tk _ fun us B' H' s r => ⟨B', l, n, us, ds, A, by rw [List.append_nil], s.fz, s.ok tk, b.step s, r, hA, fun v d B2 H2 a s2 r2 => w v d B2 H2 a ((SB.of f b s).trans s2) r2⟩⟩
/-- goods[take(..)] -/
theorem edx_ixL (h : ED T K ta σ B (.list ds)) (h2 : EDX T K l k tb σ B (fun d => ∃ r : Nat, (r : Int) < ds.length ∧ d = .int r)) : EDX T K l k (tOp (rIxL K) ta tb) σ B (fun d => d ∈ ds) := fun n B1 H sb f tk b Q w =>
  h.sub sb H f tk _ fun v B2 H2 s r => h2 n B2 H2 (sb.trans s.sub) s.fz (s.ok tk) (b.step s) _ fun u d B3 H3 ⟨i, hi, e⟩ s3 r3 => by
    subst e
    cases r3
    cases r with
    | @lst a zs _ hx tt =>
      have hi' : i < ds.length := by omega
      have hat : atI ds (i : Int) = some ds[i] := by
        unfold atI ixN
        rw [if_pos (by omega), if_pos (by omega)]
        exact List.getElem?_eq_getElem (by simpa using hi')
      obtain ⟨y, e1, e2⟩ := dp_at tt hat
      exact ⟨_, _, _, y, rfl, rfl, sqL_sub (fz_sub s3.st.fz) (sqL_sub s3.st.sub hx), e1, w y _ B3 H3 (List.getElem_mem _) ((SB.of f b s).trans s3) (Dp.sub s3.st.sub _ _ e2)⟩
theorem edx_ixT (h : ED T K ta σ B (.tuple ds)) (h2 : EDX T K l k tb σ B (fun d => ∃ r : Nat, (r : Int) < ds.length ∧ d = .int r)) : EDX T K l k (tOp (rIxT K) ta tb) σ B (fun d => d ∈ ds) := fun n B1 H sb f tk b Q w =>
  h.sub sb H f tk _ fun v B2 H2 s r => h2 n B2 H2 (sb.trans s.sub) s.fz (s.ok tk) (b.step s) _ fun u d B3 H3 ⟨i, hi, e⟩ s3 r3 => by
    subst e
    cases r3
    cases r with
    | @tup a zs _ hx tt =>
      have hi' : i < ds.length := by omega
      have hat : atI ds (i : Int) = some ds[i] := by
        unfold atI ixN
        rw [if_pos (by omega), if_pos (by omega)]
        exact List.getElem?_eq_getElem (by simpa using hi')
      obtain ⟨y, e1, e2⟩ := dp_at tt hat
      exact ⟨_, _, _, y, rfl, rfl, sqT_sub (fz_sub s3.st.fz) (sqT_sub s3.st.sub hx), e1, w y _ B3 H3 (List.getElem_mem _) ((SB.of f b s).trans s3) (Dp.sub s3.st.sub _ _ e2)⟩
/-- tuple(list that asks) -/
theorem edx_tupleOf {A2 : List PyData → Prop} (h : EDX T K l k te σ B (fun d => ∃ ds, A2 ds ∧ d = .list ds)) : EDX T K l k (tCB (rTupOf K) (tCons te tNil)) σ B (fun d => ∃ ds, A2 ds ∧ d = .tuple ds) := fun n B1 H sb f tk b Q w =>
  h n B1 H sb f tk b _ fun v d B3 H3 ⟨ds, ha, e⟩ s r => by
    subst e
    cases r with
    | @lst a zs _ hx tt => exact ⟨_, _, rfl, .inl ⟨sqL_sub (fz_sub s.st.fz) hx, fun p np => w _ _ _ _ ⟨ds, ha, rfl⟩ (s.then (St.laid s.st.fz np noT_tup)) (Dp.newT (s.st.fz.off np) tt)⟩⟩
theorem SB.back (s : SB T l n B H B' H') (b : Bx l m B H) : SB T l n B H B H' := ⟨⟨s.st.sm, Sub.refl B, Fz.sub s.st.sub s.st.fz, fun _ _ h _ _ => h⟩, b.1, s.bo⟩
/-- take(..) == 0 -/
theorem etx_zero (h : EDX T K l k te σ B (fun d => ∃ r : Nat, d = .int r)) : ETX T l k (tTest (tOp rEq te (tC (.int 0)))) σ B := fun n B1 H sb f tk b Q w =>
  h n B1 H sb f tk b _ fun v d B3 H3 ⟨r, e⟩ s rr => by
    subst e
    cases rr
    exact ⟨rfl, _, rfl, w _ H3 (s.back b)⟩
theorem SB.mutL {D : Addr} {acc ys : List V} (s : SB T l n B H B' H') (b : Bx l m B H) (nD : H D = none) (nB : B' D = none) (h : H' D = some (.lst acc)) : SB T l n B H B' (upd H' D (.lst ys)) := by
  have hl : l ≠ D := by
    obtain ⟨_, _, e⟩ := b.2
    exact ne_of_none e nD
  have nc : cut [l] H D = none := by
    rw [cut_out (by simp [hl.symm])]; exact nD
  exact ⟨s.st.mut nc nB h, s.nB, let ⟨bs, h1, h2⟩ := s.bo; ⟨bs, h1, by rw [upd_ne hl]; exact h2⟩⟩
theorem SB.seal {D : Addr} {acc : List V} (s : SB T l n B H B' H') (b : Bx l m B H) (nD : H D = none) (nB : B' D = none) (h : H' D = some (.lst acc)) : SB T l n B H (upd B' D (.lst acc)) H' := by
  have hl : l ≠ D := by
    obtain ⟨_, _, e⟩ := b.2
    exact ne_of_none e nD
  have nc : cut [l] H D = none := by
    rw [cut_out (by simp [hl.symm])]; exact nD
  exact ⟨s.st.seal nc nB h, by rw [upd_ne hl]; exact s.nB, s.bo⟩
theorem SB.keepL {D : Addr} {o : HO} {B1 H1 : Hp} (s : SB T l n B1 H1 B' H') (hl : l ≠ D) (no : NoT o) (nB : B1 D = none) (h : H1 D = some o) : B' D = none ∧ H' D = some o :=
  s.st.keepL no nB (by rw [cut_out (by simp [hl.symm])]; exact h)
end
end Vk

set_option Elab.async false
set_option linter.all false
set_option maxRecDepth 100000
set_option maxHeartbeats 4000000
/-! Comprehensions and loops that ask the box. -/
namespace Vk
open PySem L2 StX
section
variable {T : Tb} {K : PySem.W.Frag} {l : Addr} {k n N : Nat} {σ : L2.St} {B B1 H1 : Hp} {te tl : TE} {tt : TT} {α : Type} {j : Nat} {vs : List Nat} {xs : List α} {enc : α → PyData} {D : Addr}
def CwB (T : Tb) (K : PySem.W.Frag) (l : Addr) (n k N : Nat) (B1 H1 : Hp) (D : Addr) (P : Nat → List PyData → Prop) (i : Nat) (H' : Hp) : Prop :=
  ∃ B' acc ds, SB T l (n + k * (N - i)) B1 H1 B' H' ∧ B' D = none ∧ H' D = some (.lst acc) ∧ DpAll K B' acc ds ∧ P i ds
theorem cwb_start {P : Nat → List PyData → Prop} (f : Fz B1 H1) (b : Bx l (n + k * N) B1 H1) (nD : H1 D = none) (h0 : P 0 []) : CwB T K l n k N B1 H1 D P 0 (upd H1 D (.lst [])) :=
  ⟨B1, [], [], SB.of f b (St.work f nD), f.off nD, upd_same, .nil, h0⟩
theorem arith {i : Nat} (h : i < N) : n + k * (N - i) = n + k * (N - (i + 1)) + k := by
  have : N - i = (N - (i + 1)) + 1 := by omega
  rw [this, Nat.mul_succ, Nat.add_assoc]
theorem cwb_push {P : Nat → List PyData → Prop} {i : Nat} {H' : Hp} {σ2 : L2.St} {A : PyData → Prop} (b : Bx l (n + k * N) B1 H1) (tk : TOk T H1) (nD : H1 D = none) (hi : i < N) (hs : ∀ ds, P i ds → ds.length < sizeLine) (c : CwB T K l n k N B1 H1 D P i H')
    (he : ∀ B', Sub B1 B' → EDX T K l k te σ2 B' A) (hP : ∀ ds d, P i ds → A d → P (i + 1) (ds ++ [d])) :
    te σ2 H' fun y H4 => ∃ acc, H4 D = some (.lst acc) ∧ acc.length < sizeLine ∧ CwB T K l n k N B1 H1 D P (i + 1) (upd H4 D (.lst (acc ++ [y]))) := by
  obtain ⟨B', acc, ds, s, nB, h, r, p⟩ := c
  have hl : l ≠ D := by
    obtain ⟨_, _, e⟩ := b.2
    exact ne_of_none e nD
  refine he B' s.st.sub (n + k * (N - (i + 1))) B' H' (Sub.refl _) s.st.fz (s.ok b tk) (by rw [← arith hi]; exact s.bx) _ fun v d B4 H4 a s4 r4 => ?_
  obtain ⟨nB4, h4⟩ := s4.keepL hl noT_lst nB h
  exact ⟨acc, h4, by rw [r.length]; exact hs ds p, B4, _, ds ++ [d], (s.trans s4).mutL b nD nB4 h4, nB4, upd_same, DpAll.append (DpAll.sub s4.st.sub _ _ r) (.cons r4 .nil), hP ds d p a⟩
theorem cwb_done {P : Nat → List PyData → Prop} {H' : Hp} {Q : VK} (b : Bx l (n + k * N) B1 H1) (nD : H1 D = none) (c : CwB T K l n k N B1 H1 D P N H') (q : ∀ v ds B' H', P N ds → SB T l n B1 H1 B' H' → Dp K B' v (.list ds) → Q v H') : Q (.ref D) H' := by
  obtain ⟨B', acc, ds, s, nB, h, r, p⟩ := c
  exact q _ ds _ _ p ((s.less (Nat.le_add_right _ _)).seal b nD nB h) (Dp.newL nB r)
/-- [e for x in t], e asks -/
theorem edx_mapT {A : PyData → Prop} (h : ED T K tl σ B (.tuple (xs.map enc))) (hN : xs.length = N) (hw : ∀ x, wipe ((wipe σ vs).set j (some x)) vs = wipe σ vs)
    (he : ∀ x ∈ xs, ∀ v B1, Sub B B1 → Dp K B1 v (enc x) → EDX T K l k te ((wipe σ vs).set j (some v)) B1 A) :
    EDX T K l (k * N) (tLc (iTup K (tSz K tl)) (gName j) tYes te vs) σ B (fun d => ∃ ds, (ds.length = N ∧ ∀ d ∈ ds, A d) ∧ d = .list ds) := fun n B0 H0 sb f tk b Q w =>
  h.sub sb H0 f tk _ fun v B1 H1 s1 r1 hsz => by
    have b1 := b.step s1
    have tk1 := s1.ok tk
    cases r1 with
    | @tup a zs _ hx t =>
      have hx1 := sqT_sub (fz_sub s1.fz) hx
      have el : zs.length = N := by rw [t.length, List.length_map, hN]
      have hl : N ≤ sizeLine := by rw [← el]; exact hsz _ _ (.inr hx1)
      refine ⟨a, rfl, ⟨_, hx1⟩, fun D hD => ?_⟩
      refine lc_it (walk_tup (K := K) (a := a) (xs := zs)) (CwB T K l n k N B1 H1 D fun i ds => ds.length = i ∧ ∀ d ∈ ds, A d) (cwb_start s1.fz b1 hD ⟨rfl, fun _ h => by cases h⟩) (fun i H' _ c => ?_) (fun i x H' H'' hi c y => ?_) (fun H' c => ?_)
      · obtain ⟨B', acc, ds, s, _⟩ := c
        exact sqT_sub (fz_sub s.st.fz) (sqT_sub s.st.sub hx)
      · obtain ⟨rfl, hxi⟩ := y
        obtain ⟨x0, e1, e2, e3⟩ := enc_at t hxi
        have hp := cwb_push (te := te) (σ2 := (wipe σ vs).set j (some x)) b1 tk1 hD (by omega) (fun ds p => by have := p.1; omega) c (fun B' sb' => (he x0 e2 x B' (((sb.trans s1.sub).trans sb')) (Dp.sub sb' _ _ e3))) fun ds d p a => ⟨by rw [List.length_append, p.1]; rfl, fun e he => (List.mem_append.mp he).elim (p.2 e) fun z => by rw [List.mem_singleton.mp z]; exact a⟩
        exact ⟨hw x, hp⟩
      · rw [el] at c
        exact cwb_done b1 hD c fun v ds B' H' p s r => w v _ B' H' ⟨ds, p, rfl⟩ ((SB.of f b s1).trans s) r
/-- [e for x in range(N)], e asks -/
theorem edx_mapR {A : PyData → Prop} {ti : TI} (hti : ∀ H R, R (Itr 0 N) H → ti σ H R) (hl : N ≤ 1000) (hw : ∀ x, wipe ((wipe σ vs).set j (some x)) vs = wipe σ vs)
    (he : ∀ v B1, Sub B B1 → EDX T K l k te ((wipe σ vs).set j (some v)) B1 A) :
    EDX T K l (k * N) (tLc ti (gName j) tYes te vs) σ B (fun d => ∃ ds, (ds.length = N ∧ ∀ d ∈ ds, A d) ∧ d = .list ds) := fun n B1 H1 sb f tk b1 Q w => by
  refine hti H1 _ fun D hD => ?_
  refine lc_it (walk_range (lo := 0) (n := N)) (CwB T K l n k N B1 H1 D fun i ds => ds.length = i ∧ ∀ d ∈ ds, A d) (cwb_start f b1 hD ⟨rfl, fun _ h => by cases h⟩) (fun _ _ _ _ => trivial) (fun i x H' H'' hi c y => ?_) (fun H' c => ?_)
  · obtain ⟨rfl, rfl⟩ := y
    have hp := cwb_push (te := te) (σ2 := (wipe σ vs).set j (some (.int (0 + (i : Int))))) b1 tk hD hi (fun ds p => by have := p.1; rw [← big_line]; omega) c (fun B' sb' => he _ B' (sb.trans sb')) fun ds d p a => ⟨by rw [List.length_append, p.1]; rfl, fun e he => (List.mem_append.mp he).elim (p.2 e) fun z => by rw [List.mem_singleton.mp z]; exact a⟩
    exact ⟨hw _, hp⟩
  · exact cwb_done b1 hD c fun v ds B' H' p s r => w v _ B' H' ⟨ds, p, rfl⟩ s r
/-- [x for x in t if asked] -/
theorem edx_fil (h : ED T K tl σ B (.tuple (xs.map enc))) (hN : xs.length = N) (hw : ∀ x, wipe ((wipe σ vs).set j (some x)) vs = wipe σ vs)
    (ht : ∀ v B1, Sub B B1 → ETX T l k tt ((wipe σ vs).set j (some v)) B1)
    (he : ∀ x ∈ xs, ∀ v B1, Sub B B1 → Dp K B1 v (enc x) → ED T K te ((wipe σ vs).set j (some v)) B1 (enc x)) :
    EDX T K l (k * N) (tLc (iTup K (tSz K tl)) (gName j) tt te vs) σ B (fun d => ∃ ys : List α, ys.Sublist xs ∧ d = .list (ys.map enc)) := fun n B0 H0 sb f tk b Q w =>
  h.sub sb H0 f tk _ fun v B1 H1 s1 r1 hsz => by
    have b1 := b.step s1
    have tk1 := s1.ok tk
    cases r1 with
    | @tup a zs _ hx t =>
      have hx1 := sqT_sub (fz_sub s1.fz) hx
      have el : zs.length = N := by rw [t.length, List.length_map, hN]
      have hl : N ≤ sizeLine := by rw [← el]; exact hsz _ _ (.inr hx1)
      refine ⟨a, rfl, ⟨_, hx1⟩, fun D hD => ?_⟩
      have hlD : l ≠ D := by
        obtain ⟨_, _, e⟩ := b1.2
        exact ne_of_none e hD
      refine lc_it (walk_tup (K := K) (a := a) (xs := zs)) (CwB T K l n k N B1 H1 D fun i ds => ∃ ys : List α, ys.Sublist (xs.take i) ∧ ds = ys.map enc) (cwb_start s1.fz b1 hD ⟨[], List.Sublist.slnil, rfl⟩) (fun i H' _ c => ?_) (fun i x H' H'' hi c y => ?_) (fun H' c => ?_)
      · obtain ⟨B', acc, ds, s, _⟩ := c
        exact sqT_sub (fz_sub s.st.fz) (sqT_sub s.st.sub hx)
      · obtain ⟨rfl, hxi⟩ := y
        obtain ⟨x0, e1, e2, e3⟩ := enc_at t hxi
        have et : xs.take (i + 1) = xs.take i ++ [x0] := by rw [List.take_succ, e1]; rfl
        refine ⟨hw x, ?_⟩
        obtain ⟨B', acc, ds, s, nB, hp, r, ys, hy, rfl⟩ := c
        have sb' := s.st.sub
        refine ht x B' ((sb.trans s1.sub).trans sb') (n + k * (N - (i + 1))) B' H'' (Sub.refl _) s.st.fz (s.ok b1 tk1) (by rw [← arith (by omega)]; exact s.bx) _ fun bb H3 s3 => ?_
        obtain ⟨nB3, hp3⟩ := s3.keepL hlD noT_lst nB hp
        have s13 := s.trans s3
        cases bb with
        | true =>
          show te _ H3 _
          refine (he x0 e2 x B' ((sb.trans s1.sub).trans sb') (Dp.sub sb' _ _ e3)) H3 s3.st.fz (s13.ok b1 tk1) _ fun y B4 H4 s4 r4 => ?_
          obtain ⟨nB4, h4⟩ := s4.keepL noT_lst nB3 hp3
          refine ⟨acc, h4, ?_, B4, _, (ys ++ [x0]).map enc, (s13.then s4).mutL b1 hD nB4 h4, nB4, upd_same, ?_, ys ++ [x0], ?_, rfl⟩
          · rw [r.length, List.length_map]
            have := hy.length_le
            rw [List.length_take] at this
            omega
          · rw [List.map_append]
            exact DpAll.append (DpAll.sub s4.sub _ _ r) (.cons r4 .nil)
          · rw [et]; exact hy.append (List.Sublist.refl _)
        | false =>
          show CwB T K l n k N B1 H1 D (fun i ds => ∃ ys : List α, ys.Sublist (xs.take i) ∧ ds = ys.map enc) (i + 1) H3
          exact ⟨B', acc, _, s13, nB3, hp3, r, ys, by rw [et]; exact hy.trans (List.sublist_append_left _ _), rfl⟩
      · rw [el] at c
        exact cwb_done b1 hD c fun v ds B' H' p s r => by
          obtain ⟨ys, hy, rfl⟩ := p
          exact w v _ B' H' ⟨ys, by rw [← hN, List.take_length] at hy; exact hy, rfl⟩ ((SB.of f b s1).trans s) r
end
end Vk

set_option Elab.async false
set_option linter.all false
set_option maxRecDepth 100000
set_option maxHeartbeats 4000000
/-! The law's plain defs (printed by pl1.py). -/
namespace Vk
open PySem L2 StX
def kitV : Vt := (["a", "b", "c"], [["a", "b"], ["c"]])
def kitH : Ks := ["ann", "bob", "ann"]
def nearL (own far : Ks) : Bool := !decide (far = own) && decide ((far.filter fun x => !decide (x ∈ own)) = [])
def lawLeast (L : Kss) : Kss := (us tLt L).filter fun own => decide (((us tLt L).filter (nearL own)) = [])
def A_law_kit (ds : List PyData) (d : PyData) : Prop := ds = [] ∧ d = .tuple [dV kitV, dT kitH]
def A_law_least (ds : List PyData) (d : PyData) : Prop := ∃ L : Kss, Few L ∧ Nmss L ∧ ds = [dLT L] ∧ d = dTT (lawLeast L)
def A_same (n : Nat) (ds : List PyData) (d : PyData) : Prop := ∃ x : PyData, x.depth ≤ n ∧ x.canLay0 = true ∧ ds = [x, x] ∧ d = .bool true
def isNo : PyData → Bool
  | .none => true
  | _ => false
section
variable {T : Tb} {K : PySem.W.Frag} {σ : L2.St} {B : Hp} {ta tb te : TE} {d : PyData}
theorem ed_isN (h : ED T K te σ B d) : ED T K (tOp (fun x y H Q => y = .non ∧ Q (.bl (decide (x = .non))) H) te (tC .non)) σ B (.bool (isNo d)) := ed_op h ed_non fun B1 H1 v w Q f r1 r2 q => by
  cases r2
  refine ⟨rfl, ?_⟩
  have e : decide (v = .non) = isNo d := by cases r1 <;> rfl
  rw [e]
  exact q _ (.bl _)
theorem ed_notN (h : ED T K te σ B d) : ED T K (tOp (fun x y H Q => y = .non ∧ Q (.bl (!decide (x = .non))) H) te (tC .non)) σ B (.bool (!isNo d)) := ed_op h ed_non fun B1 H1 v w Q f r1 r2 q => by
  cases r2
  refine ⟨rfl, ?_⟩
  have e : decide (v = .non) = isNo d := by cases r1 <;> rfl
  rw [e]
  exact q _ (.bl _)
theorem ed_eqB {x y : Bool} (h : ED T K ta σ B (.bool x)) (h2 : ED T K tb σ B (.bool y)) : ED T K (tOp rEq ta tb) σ B (.bool (decide (x = y))) := ed_op h h2 fun B1 H1 v w Q f r1 r2 q => by
  cases r1
  cases r2
  refine ⟨rfl, ?_⟩
  have e : decide (V.bl x = V.bl y) = decide (x = y) := by simp
  rw [e]
  exact q _ (.bl _)
theorem ed_neB {x y : Bool} (h : ED T K ta σ B (.bool x)) (h2 : ED T K tb σ B (.bool y)) : ED T K (tOp rNe ta tb) σ B (.bool (!decide (x = y))) := ed_op h h2 fun B1 H1 v w Q f r1 r2 q => by
  cases r1
  cases r2
  refine ⟨rfl, ?_⟩
  have e : decide (V.bl x = V.bl y) = decide (x = y) := by simp
  rw [e]
  exact q _ (.bl _)
def leaf : PyData → Bool
  | .none | .bool _ | .int _ | .str _ => true
  | _ => false
theorem ed_self (l : leaf d = true) (h : ED T K ta σ B d) (h2 : ED T K tb σ B d) : ED T K (tOp rEq ta tb) σ B (.bool true) := ed_op h h2 fun B1 H1 v w Q f r1 r2 q => by
  cases r1 <;> cases r2 <;> first | exact ⟨rfl, by rw [decide_eq_true rfl]; exact q _ (.bl _)⟩ | cases l
theorem fil_in {α : Type} {p : α → Bool} {l : List α} {x : α} (h : p x = true) : (l ++ [x]).filter p = l.filter p ++ [x] := by rw [List.filter_append, List.filter_cons_of_pos h]; rfl
theorem fil_out {α : Type} {p : α → Bool} {l : List α} {x : α} (h : p x = false) : (l ++ [x]).filter p = l.filter p := by rw [List.filter_append, List.filter_cons_of_neg (by rw [h]; decide)]; exact List.append_nil _
theorem eqv_nilL (l : Ks) : PyData.eqv (.list (l.map .str)) (.list []) = decide (l = []) := by
  cases l <;> simp [PyData.eqv, PyData.eqvAll]
theorem eqv_nilLT (L : Kss) : PyData.eqv (.list (L.map dT)) (.list []) = decide (L = []) := by
  cases L <;> simp [PyData.eqv, PyData.eqvAll]
theorem shaped_strs {l : Ks} (h : Nms l) : SeqAt.shaped (.list (l.map .str)) = true := shape_of (n := 1) (by rw [PyData.canLay0, lay_strs h]) (Nat.le_of_eq (dep_dL l))
end
theorem lay_mem : ∀ {ds : List PyData}, PyData.canLayAll0 ds = true → ∀ d ∈ ds, d.canLay0 = true
  | [], _, _, h => by cases h
  | x :: ds, hl, d, h => by
    rw [PyData.canLayAll0, Bool.and_eq_true] at hl
    rcases List.mem_cons.mp h with rfl | h
    · exact hl.1
    · exact lay_mem hl.2 d h
theorem zip_self {α : Type} : ∀ {l : List α} {z : α × α}, z ∈ l.zip l → z.2 = z.1
  | [], _, h => by cases h
  | a :: l, z, h => by
    rw [List.zip_cons_cons] at h
    rcases List.mem_cons.mp h with rfl | h
    · rfl
    · exact zip_self h
section
variable {P : Program} {w : World} {K : PySem.W.Frag} {mg : Str → Option Value} {base : Heap} {T : Tb}
theorem ok_law_kit (c : Code K mg) : FnOk P w K mg base CX0 1 c._law_kit.f c._law_kit.fd [] (spD T K A_law_kit) := by
  refine pure_ok c._law_kit.F sc__law_kit (fun ds d h => ?_) (fun cdv A' outer s H B vs ds d E hr f tk r hA => ?_)
  · obtain ⟨rfl, _⟩ := h; rfl
  · obtain ⟨rfl, rfl⟩ := hA
    cases r
    refine ⟨_, (pss_one (ps_ret (pe_tup (pa_cons (pe_tup (pa_cons (pe_tup (pa_cons pe_str (pa_cons pe_str (pa_cons pe_str pa_nil)))) (pa_cons (pe_tup (pa_cons (pe_tup (pa_cons pe_str (pa_cons pe_str pa_nil))) (pa_cons (pe_tup (pa_cons pe_str pa_nil)) pa_nil))) pa_nil))) (pa_cons (pe_tup (pa_cons pe_str (pa_cons pe_str (pa_cons pe_str pa_nil)))) pa_nil))))), fun D q => ?_⟩
    have z1 : ∀ {n : Nat}, n ≤ 100 → n ≤ sizeLine := fun h => by rw [← big_line]; omega
    exact sd_ret f tk (ed_tup (eda_cons (ed_tup (eda_cons (ed_tup (eda_cons (ed_str "a") (eda_cons (ed_str "b") (eda_cons (ed_str "c") eda_nil))) (z1 (by decide))) (eda_cons (ed_tup (eda_cons (ed_tup (eda_cons (ed_str "a") (eda_cons (ed_str "b") eda_nil)) (z1 (by decide))) (eda_cons (ed_tup (eda_cons (ed_str "c") eda_nil) (z1 (by decide))) eda_nil)) (z1 (by decide))) eda_nil)) (z1 (by decide)))
      (eda_cons (ed_tup (eda_cons (ed_str "ann") (eda_cons (ed_str "bob") (eda_cons (ed_str "ann") eda_nil))) (z1 (by decide))) eda_nil)) (z1 (by decide))) q
theorem ok_law_lots (c : Code K mg) : FnOk P w K mg base CX0 1 c._law_lots.f c._law_lots.fd ["_law_names_so"] (spD T K A_subsets) := by
  refine pure_ok c._law_lots.F sc__law_lots (fun ds d h => ?_) (fun cdv A' outer s H B vs ds d E hr f tk r hA => ?_)
  · obtain ⟨l, _, rfl, _⟩ := h; rfl
  · obtain ⟨l, hl, rfl, rfl⟩ := hA
    obtain ⟨v, rfl, rv⟩ := dpAll1 r
    have hu := hr.u64
    have big : (65536 : Nat) + 65536 ≤ sizeLine := by rw [sizeLine_eq]; omega
    refine ⟨_, (pss_cons (ps_set (i := 1) sc__law_lots.nd rfl (Or.inl rfl) (pe_lst (pa_cons (pe_tup pa_nil) pa_nil))) (pss_cons (ps_for PassesOwn.never rfl (kPiT (K := K) rfl (kSz (K := K) rfl (pv 0))) (pg_name (i := 2) sc__law_lots.nd rfl (Or.inr rfl)) (pss_one (ps_set (i := 1) sc__law_lots.nd rfl (Or.inl rfl) (pe_op (kCatL (K := K) rfl) (pv 1) (pe_lc (own := [("_law_own", 3)]) (g := gName 3) (tt := tYes) rfl sc__law_lots.nd (kPiL (K := K) rfl (kSz (K := K) rfl (pv 1))) (blkOk_by (N := ["_law_names_so", "_law_found", "_law_name", "_law_own"]) (sc := defScope s__law_lots) (by decide +kernel)) (fun _ _ _ _ _ => pg_name (i := 3) sc__law_lots.nd rfl (Or.inl rfl)) (fun _ _ _ _ _ => pts_nil) (fun _ _ _ _ _ => (pe_op (kCatT (K := K) rfl) (pv 3) (pe_tup (pa_cons (pv 2) pa_nil))))))))) (pss_one (ps_ret (pe_callB (kSrt (K := K) rfl hu) (by rfl) c.m_sorted (by decide +kernel) (pa_cons (pv 1) pa_nil)))))), fun D q => ?_⟩
    refine sd_asg (K := K) f tk (ed_lst (eda_cons (ed_tup eda_nil (Nat.zero_le _)) eda_nil) (by show 1 ≤ sizeLine; omega)) fun vf B1 H1 s1 r1 => ?_
    refine sd_forT (enc := PyData.str) (xs := l) s1.fz (s1.ok tk) (ed_var rfl (Dp.sub s1.sub _ _ rv)) fun B2 H2 s2 => ?_
    have s12 := s1.trans s2
    refine ⟨fun i σ' H' => ∃ vf o2 o3 B', σ' = [some v, some vf, o2, o3] ∧ St T B2 H2 B' H' ∧ Dp K B' vf (dLT (subsU (l.take i))), ?_, ?_, ?_, ?_⟩
    · exact ⟨vf, none, none, B2, rfl, St.refl s2.fz, Dp.sub s2.sub _ _ r1⟩
    · rintro i σ' H' ⟨_, _, _, B', _, s, _⟩
      exact Fz.sub s.sub s.fz
    · rintro i x v1 σ' H' hx rx ⟨vf, o2, o3, B', rfl, s, rf⟩
      have hi : i < l.length := (List.getElem?_eq_some_iff.mp hx).1
      have e1 : l.take (i + 1) = l.take i ++ [x] := by rw [List.take_succ, hx]; rfl
      have hz : (subsU (l.take i)).length ≤ 65536 := subs_len _ (by rw [List.length_take]; omega)
      refine sd_asg s.fz (s.ok (s12.ok tk)) (ed_catL (ed_var rfl rf) (ed_mapL (enc := dT) (xs := subsU (l.take i)) (fun a => dT (a ++ [x])) (ed_var rfl rf) (fun _ => rfl) fun a ha va B3 sb ra => ?_) ?_) fun vn B4 H4 s4 r4 => ?_
      · refine (ed_catT (xs := a.map .str) (ys := [.str x]) (ed_var rfl ra) (ed_tup (eda_cons (ed_var rfl (Dp.sub (s.sub.trans sb) _ _ rx)) eda_nil) (by show 1 ≤ sizeLine; omega)) ?_).is ?_
        · have := subs_el ha
          rw [List.length_take] at this
          rw [List.length_map]
          show a.length + 1 ≤ sizeLine
          omega
        · unfold dT; rw [List.map_append]; rfl
      · rw [List.length_map, List.length_map]; omega
      · refine ⟨vn, _, o3, B4, rfl, s.trans s4, ?_⟩
        rw [e1, subsU_snoc]
        unfold dLT
        rw [List.map_append, List.map_map]
        exact r4
    · rintro σ' H' ⟨vf, o2, o3, B', rfl, s, rf⟩
      rw [List.take_length] at rf
      exact sd_ret s.fz (s.ok (s12.ok tk)) ((ed_srt (ed_var rfl rf) (gd_T _)).is (by rw [sortD_T]; rfl)) fun v' B' H' s' r' => q v' B' H' ((s12.trans s).trans s') r'
theorem ok_law_least (c : Code K mg) : FnOk P w K mg base CX0 1 c._law_least.f c._law_least.fd ["_law_sets_so"] (spD T K A_law_least) := by
  refine pure_ok c._law_least.F sc__law_least (fun ds d h => ?_) (fun cdv A' outer s H B vs ds d E hr f tk r hA => ?_)
  · obtain ⟨l, _, _, rfl, _⟩ := h; rfl
  · obtain ⟨L, few, nm, rfl, rfl⟩ := hA
    obtain ⟨v, rfl, rv⟩ := dpAll1 r
    have hu := hr.u64
    refine ⟨_, (pss_cons (ps_set (i := 1) sc__law_least.nd rfl (Or.inl rfl) (pe_callB (cSortSet (K := K) (enc := (elT P w).enc) rfl rfl hu) (by rfl) c.m_sorted (by decide +kernel) (pa_cons (pe_callTy (cSetOf (K := K) rfl rfl hu (elT P w) elT_of) (by rfl) c.m_set (by decide +kernel) (pa_cons (pv 0) pa_nil)) pa_nil))) (pss_cons (ps_set (i := 2) sc__law_least.nd rfl (Or.inl rfl) (pe_lst pa_nil)) (pss_cons (ps_for PassesOwn.never rfl (kPiL (K := K) rfl (kSz (K := K) rfl (pv 1))) (pg_name (i := 3) sc__law_least.nd rfl (Or.inr rfl)) (pss_cons (ps_setLc (i := 4) (own := [("_law_far", 5)]) (g := gName 5) rfl sc__law_least.nd rfl rfl (sw_true rfl rfl rfl (by decide +kernel)) (kPiL (K := K) rfl (kSz (K := K) rfl (pv 1))) (blkOk_by (N := ["_law_sets_so", "_law_pool_so", "_law_found", "_law_own", "_law_near_so", "_law_far", "_law_name"]) (sc := defScope s__law_least) (by decide +kernel)) (fun _ _ _ _ _ => pg_name (i := 5) sc__law_least.nd rfl (Or.inl rfl)) (fun _ _ _ _ _ => (pts_one (PW.pt (pw_and (pt_cmpR (kNeD (K := K) rfl hu) (pv 5) (pv 3) (nomark _)) (pw_and1 (pt_cmpR (kEqD (K := K) rfl hu) (pe_lc (own := [("_law_name", 6)]) (g := gName 6) rfl sc__law_least.nd (kPiT (K := K) rfl (kSz (K := K) rfl (pv 5))) (blkOk_by (by rfl)) (fun _ _ _ _ _ => pg_name (i := 6) sc__law_least.nd rfl (Or.inl rfl)) (fun _ _ _ _ _ => (pts_one (pt_cmpR (kNin (K := K) rfl) (pv 6) (pv 3) (by rfl)))) (fun _ _ _ _ _ => (pv 6))) (pe_lst pa_nil) (nomark _))))))) (fun _ _ _ _ _ => (pv 5))) (pss_one (ps_if (pt_cmpR (kEqD (K := K) rfl hu) (pv 4) (pe_lst pa_nil) (nomark _)) (pss_one (ps_expr (pe_bm PySem.F.plainAttrs_list PySem.F.slot_list_append PySem.F.type_list_append mt_append (pv 2) (pa_cons (pv 3) pa_nil)))) pss_nil)))) (pss_one (ps_ret (pe_callTy (kTuple (K := K) rfl) (by rfl) c.m_tuple (by decide +kernel) (pa_cons (pv 2) pa_nil))))))), fun D q => ?_⟩
    have nmU : ∀ k ∈ us tLt L, Nms k := fun k hk => nm k (mem_us.mp hk)
    have len62 : (us tLt L).length < 62 := by
      obtain ⟨U, hU, hin⟩ := few
      exact Nat.lt_of_le_of_lt (nodup_le _ U (us_nodup tLt_to L) fun x hx => hin x (mem_us.mp hx)) hU
    refine sd_asg (d := dLT (us tLt L)) f tk (ed_srtSet (κ := Ks) (enc := dT) tLt_to sortD_T gd_T few (ed_var rfl rv) (.inl rfl)) fun vp B1 H1 s1 rp => ?_
    refine sd_newM (T := T) (K := K) s1.fz fun p H2 m0 => ?_
    have tk1 := s1.ok tk
    refine sd_forL (enc := dT) (xs := us tLt L) m0.st.fz (m0.st.ok tk1) (ed_var rfl rp) fun B3 H3 s3 => ?_
    refine ⟨fun i σ' H' => ∃ o3 o4 o5 o6 B', σ' = [some v, some vp, some (.ref p), o3, o4, o5, o6] ∧ Sub B3 B' ∧ Mkg T K B1 H1 p ((((us tLt L).take i).filter fun own => decide (((us tLt L).filter (nearL own)) = [])).map dT) B' H', ?_, ?_, ?_, ?_⟩
    · exact ⟨none, none, none, none, B3, rfl, Sub.refl _, m0.step s3⟩
    · rintro i σ' H' ⟨_, _, _, _, _, _, sb, m⟩
      exact m.st.fz.sub sb
    · rintro i g v1 σ' H' hx rx ⟨o3, o4, o5, o6, B', rfl, sb, m⟩
      have hi : i < (us tLt L).length := (List.getElem?_eq_some_iff.mp hx).1
      have hg : g ∈ us tLt L := List.mem_of_getElem? hx
      have e1 : (us tLt L).take (i + 1) = (us tLt L).take i ++ [g] := by rw [List.take_succ, hx]; rfl
      refine sd_asg (d := dLT ((us tLt L).filter (nearL g))) m.st.fz (m.st.ok tk1) (ed_filL (enc := dT) (xs := us tLt L) (nearL g) (ed_var rfl (Dp.sub (s3.sub.trans sb) _ _ rp)) (fun _ => rfl) (fun far hf vf B4 sb4 rf => ?_) (fun far hf vf B4 sb4 rf _ => ed_var rfl rf)) fun vn B4 H4 s4 r4 => ?_
      · refine et_and (et_test ((ed_neD (K := K) (ed_var rfl rf) (ed_var rfl (Dp.sub (sb.trans sb4) _ _ rx)) (shaped_dT (nmU far hf)) (shaped_dT (nmU g hg))).is (by rw [eqv_dT]))) fun _ => et_test ((ed_eqD (K := K) (x := .list ((far.filter fun x => !decide (x ∈ g)).map .str)) (ed_filT (enc := PyData.str) (xs := far) (fun x => !decide (x ∈ g)) (ed_var rfl rf) (fun _ => rfl)
          (fun x hx vx B5 sb5 rx5 => et_test (ed_in (neg := true) (ed_var rfl rx5) (ed_var rfl (Dp.sub ((sb.trans sb4).trans sb5) _ _ rx)) (.inr rfl))) (fun x hx vx B5 sb5 rx5 _ => ed_var rfl rx5)) (ed_lst (eda_nil (K := K)) (Nat.zero_le _)) ?_ rfl).is ?_)
        · exact shaped_strs fun x hx => nmU far hf x (List.mem_filter.mp hx).1
        · rw [eqv_nilL]
      · have m4 := m.step s4
        refine sd_if (b := decide (((us tLt L).filter (nearL g)) = [])) m4.st.fz (m4.st.ok tk1) (et_test ((ed_eqD (K := K) (x := dLT ((us tLt L).filter (nearL g))) (ed_var rfl r4) (ed_lst (eda_nil (K := K)) (Nat.zero_le _)) (shaped_dLT fun k hk => nmU k (List.mem_filter.mp hk).1) rfl).is (by unfold dLT; rw [eqv_nilLT]))) (fun hb H5 s5 => ?_) (fun hb H5 s5 => ?_)
        · refine sd_app (K := K) (m4.step s5) ((m4.step s5).st.ok tk1) rfl ?_ (ed_var rfl (Dp.sub (sb.trans s4.sub) _ _ rx)) fun B6 H6 sb6 m6 => ⟨_, _, _, _, B6, rfl, (sb.trans s4.sub).trans sb6, ?_⟩
          · have h1 : (((us tLt L).take i).filter fun own => decide (((us tLt L).filter (nearL own)) = [])).length ≤ i := Nat.le_trans (List.length_filter_le _ _) (by rw [List.length_take]; exact Nat.min_le_left _ _)
            rw [List.length_map, ← big_line]
            omega
          · rw [e1, fil_in (p := fun own => decide (((us tLt L).filter (nearL own)) = [])) hb, List.map_append]
            exact m6
        · refine ⟨_, _, _, _, B4, rfl, sb.trans s4.sub, ?_⟩
          rw [e1, fil_out (p := fun own => decide (((us tLt L).filter (nearL own)) = [])) hb]
          exact m4.step s5
    · rintro σ' H' ⟨o3, o4, o5, o6, B', rfl, sb, m⟩
      rw [List.take_length] at m
      obtain ⟨B2, s2, _, r2⟩ := m.done
      exact sd_ret s2.fz (s2.ok tk1) (ed_tupleOf (ed_var rfl r2) (.inl rfl)) fun v' B' H' s3 r' => q v' B' H' ((s1.trans s2).trans s3) r'
theorem same_step (c : Code K mg) {n : Nat} (G__law_same : FnOk P w K mg base CX0 n c._law_same.f c._law_same.fd ["_law_got", "_law_due"] (spD T K fun ds d => ∃ x : PyData, x.depth < n ∧ x.canLay0 = true ∧ ds = [x, x] ∧ d = .bool true)) : FnOk P w K mg base CX0 (n + 1) c._law_same.f c._law_same.fd ["_law_got", "_law_due"] (spD T K (A_same n)) := by
  refine pure_ok c._law_same.F sc__law_same (fun ds d h => ?_) (fun cdv A' outer s H B vs ds d E hr f tk r hA => ?_)
  · obtain ⟨x, _, _, rfl, _⟩ := h; rfl
  · obtain ⟨x, hd, hl, rfl, rfl⟩ := hA
    obtain ⟨v, u, rfl, r1, r2⟩ := DpAll.two r
    refine ⟨_, (pss_cons (ps_if (pt_val (pe_callB (kIsiT (K := K) rfl) (by rfl) c.m_isinstance (by decide +kernel) (pa_cons (pv 1) (pa_cons (pe_tup (pa_cons (pe_tyn (c := "list") (by rfl) c.m_list (by decide +kernel)) (pa_cons (pe_tyn (c := "tuple") (by rfl) c.m_tuple (by decide +kernel)) pa_nil))) pa_nil)))) (pss_cons (ps_if (PW.pt (pw_or (pt_cmpR op_ne (pe_callB (kIsi (K := K) rfl) (by rfl) c.m_isinstance (by decide +kernel) (pa_cons (pv 0) (pa_cons (pe_tyn (c := "list") (by rfl) c.m_list (by decide +kernel)) pa_nil))) (pe_callB (kIsi (K := K) rfl) (by rfl) c.m_isinstance (by decide +kernel) (pa_cons (pv 1) (pa_cons (pe_tyn (c := "list") (by rfl) c.m_list (by decide +kernel)) pa_nil))) (nomark _)) (pw_or1 (pt_cmpR op_ne (pe_callB (kIsi (K := K) rfl) (by rfl) c.m_isinstance (by decide +kernel) (pa_cons (pv 0) (pa_cons (pe_tyn (c := "tuple") (by rfl) c.m_tuple (by decide +kernel)) pa_nil))) (pe_callB (kIsi (K := K) rfl) (by rfl) c.m_isinstance (by decide +kernel) (pa_cons (pv 1) (pa_cons (pe_tyn (c := "tuple") (by rfl) c.m_tuple (by decide +kernel)) pa_nil))) (nomark _))))) (pss_one (ps_ret pe_bl)) pss_nil) (pss_one (ps_ret (pe_and (pe_cmpR op_eq (pe_callB (kLen (K := K) rfl) (by rfl) c.m_len (by decide +kernel) (pa_cons (pv 0) pa_nil)) (pe_callB (kLen (K := K) rfl) (by rfl) c.m_len (by decide +kernel) (pa_cons (pv 1) pa_nil)) (nomark _)) (pe_one (pe_callB (kAll (K := K) rfl rfl) (by rfl) c.m_all (by decide +kernel) (pa_cons (pe_lc (own := [("_law_mine_so", 2), ("_law_own", 3)]) (g := gPair K 2 3) (tt := tYes) rfl sc__law_same.nd (kPiZ (K := K) rfl (by rfl) c.m_zip (pa_cons (pv 0) (pa_cons (kSz (K := K) rfl (pv 1)) pa_nil))) (blkOk_by (N := ["_law_got", "_law_due", "_law_mine_so", "_law_own"]) (sc := defScope s__law_same) (by decide +kernel)) (fun _ _ _ _ _ => kTupTg (K := K) rfl rfl (pgs_cons (pg_name (i := 2) sc__law_same.nd rfl (Or.inl rfl)) (pgs_cons (pg_name (i := 3) sc__law_same.nd rfl (Or.inl rfl)) pgs_nil))) (fun _ _ _ _ _ => pts_nil) (fun _ _ _ _ _ => (pe_call G__law_same hr (by rfl) c._law_same.g c._law_same.F.kp c._law_same.b .nil pass0 (pa_cons (pv 2) (pa_cons (pv 3) pa_nil))))) pa_nil))))))) pss_nil) (pss_cons (ps_if (PW.pt (pw_or (pt_cmpR op_isN (pv 1) pe_non (nomark _)) (pw_or1 (pt_val (pe_callB (kIsiT (K := K) rfl) (by rfl) c.m_isinstance (by decide +kernel) (pa_cons (pv 1) (pa_cons (pe_tup (pa_cons (pe_tyn (c := "bool") (by rfl) c.m_bool (by decide +kernel)) (pa_cons (pe_tyn (c := "str") (by rfl) c.m_str (by decide +kernel)) pa_nil))) pa_nil))))))) (pss_one (ps_ret (pe_and (pe_cmpR op_eq (pv 0) (pv 1) (nomark _)) (pe_and (pe_cmpR op_eq (pe_callB (kIsi (K := K) rfl) (by rfl) c.m_isinstance (by decide +kernel) (pa_cons (pv 0) (pa_cons (pe_tyn (c := "bool") (by rfl) c.m_bool (by decide +kernel)) pa_nil))) (pe_callB (kIsi (K := K) rfl) (by rfl) c.m_isinstance (by decide +kernel) (pa_cons (pv 1) (pa_cons (pe_tyn (c := "bool") (by rfl) c.m_bool (by decide +kernel)) pa_nil))) (nomark _)) (pe_one (pe_cmpR op_eq (pe_cmpR op_isN (pv 0) pe_non (nomark _)) (pe_cmpR op_isN (pv 1) pe_non (nomark _)) (nomark _))))))) pss_nil) (pss_one (ps_ret (pe_and (pe_callB (kIsi (K := K) rfl) (by rfl) c.m_isinstance (by decide +kernel) (pa_cons (pv 0) (pa_cons (pe_tyn (c := "int") (by rfl) c.m_int (by decide +kernel)) pa_nil))) (pe_and (pe_not (pe_callB (kIsi (K := K) rfl) (by rfl) c.m_isinstance (by decide +kernel) (pa_cons (pv 0) (pa_cons (pe_tyn (c := "bool") (by rfl) c.m_bool (by decide +kernel)) pa_nil)))) (pe_one (pe_cmpR op_eq (pv 0) (pv 1) (nomark _))))))))), fun D q => ?_⟩
    refine sd_if (b := isA x "list" || isA x "tuple") f tk (et_B (ed_isiT (ed_var rfl r2) (.inl rfl) (.inr (.inl rfl)))) (fun hb H1 s1 => ?_) (fun hb H1 s1 => ?_)
    · refine sd_if (b := false) s1.fz (s1.ok tk) ((et_or (et_test (ed_neB (ed_isi (ed_var rfl r1) (.inl rfl)) (ed_isi (ed_var rfl r2) (.inl rfl)))) fun _ => et_test (ed_neB (ed_isi (ed_var rfl r1) (.inr (.inl rfl))) (ed_isi (ed_var rfl r2) (.inr (.inl rfl))))).is (by simp)) (fun z => by cases z) fun _ H2 s2 => ?_
      have s12 := s1.trans s2
      cases x with
      | list xs =>
        rw [dep_list] at hd
        rw [PyData.canLay0] at hl
        refine sd_ret s2.fz (s12.ok tk) ((ed_andV (ed_eqI (ed_len (ds := xs) (ed_var rfl r1) (.inl rfl)) (ed_len (ds := xs) (ed_var rfl r2) (.inl rfl))) fun _ => ed_all (bs := (xs.zip xs).map fun _ => true) ((ed_lcZL (enc := id) (enc2 := id) (xs := xs) (ys := xs) (fun _ => true) (fun z => .bool true) ((ed_var rfl r1).is (by rw [List.map_id])) ((ed_var rfl r2).is (by rw [List.map_id])) (fun _ _ => rfl) (fun _ _ _ _ _ _ _ _ => et_yes)
          fun z hz v1 u1 B3 sb ra rb _ => ed_call (eda_cons (ed_var rfl ra) (eda_cons (ed_var rfl rb) eda_nil)) ⟨z.1, ?_, ?_, ?_, rfl⟩).is (by rw [ft_true, List.map_map]; rfl))).is (by simp)) fun v' B' H' s' r' => q v' B' H' (s12.trans s') r'
        · exact Nat.lt_of_le_of_lt (dep_le (Nat.le_refl _) z.1 (List.of_mem_zip hz).1) hd
        · exact lay_mem hl _ (List.of_mem_zip hz).1
        · rw [zip_self hz]; rfl
      | tuple xs =>
        rw [dep_tuple] at hd
        rw [PyData.canLay0] at hl
        refine sd_ret s2.fz (s12.ok tk) ((ed_andV (ed_eqI (ed_len (ds := xs) (ed_var rfl r1) (.inr rfl)) (ed_len (ds := xs) (ed_var rfl r2) (.inr rfl))) fun _ => ed_all (bs := (xs.zip xs).map fun _ => true) ((ed_lcZT (enc := id) (enc2 := id) (xs := xs) (ys := xs) (fun _ => true) (fun z => .bool true) ((ed_var rfl r1).is (by rw [List.map_id])) ((ed_var rfl r2).is (by rw [List.map_id])) (fun _ _ => rfl) (fun _ _ _ _ _ _ _ _ => et_yes)
          fun z hz v1 u1 B3 sb ra rb _ => ed_call (eda_cons (ed_var rfl ra) (eda_cons (ed_var rfl rb) eda_nil)) ⟨z.1, ?_, ?_, ?_, rfl⟩).is (by rw [ft_true, List.map_map]; rfl))).is (by simp)) fun v' B' H' s' r' => q v' B' H' (s12.trans s') r'
        · exact Nat.lt_of_le_of_lt (dep_le (Nat.le_refl _) z.1 (List.of_mem_zip hz).1) hd
        · exact lay_mem hl _ (List.of_mem_zip hz).1
        · rw [zip_self hz]; rfl
      | none => cases hb
      | bool b => cases hb
      | int i => cases hb
      | str s => cases hb
      | dict k => rw [PyData.canLay0] at hl; cases hl
    · have lf : leaf x = true := by
        cases x with
        | list xs => cases hb
        | tuple xs => cases hb
        | dict k => rw [PyData.canLay0] at hl; cases hl
        | _ => rfl
      refine sd_if (b := isNo x || (isA x "bool" || isA x "str")) s1.fz (s1.ok tk) (et_or (et_test (ed_isN (ed_var rfl r2))) fun _ => et_B (ed_isiT (ed_var rfl r2) (.inr (.inr (.inl rfl))) (.inr (.inr (.inr (.inl rfl)))))) (fun hb2 H2 s2 => ?_) (fun hb2 H2 s2 => ?_)
      · have s12 := s1.trans s2
        exact sd_ret s2.fz (s12.ok tk) ((ed_andV (ed_self lf (ed_var rfl r1) (ed_var rfl r2)) fun _ => ed_andV (ed_eqB (ed_isi (ed_var rfl r1) (.inr (.inr (.inl rfl)))) (ed_isi (ed_var rfl r2) (.inr (.inr (.inl rfl))))) fun _ => ed_eqB (ed_isN (ed_var rfl r1)) (ed_isN (ed_var rfl r2))).is (by simp)) fun v' B' H' s' r' => q v' B' H' (s12.trans s') r'
      · have s12 := s1.trans s2
        obtain ⟨i, rfl⟩ : ∃ i, x = .int i := by
          cases x with
          | int i => exact ⟨i, rfl⟩
          | list xs => cases hb
          | tuple xs => cases hb
          | dict k => cases lf
          | none => cases hb2
          | bool b => cases hb2
          | str s => cases hb2
        exact sd_ret s2.fz (s12.ok tk) ((ed_andV (ed_isi (ed_var rfl r1) (.inr (.inr (.inr (.inr rfl))))) fun _ => ed_andV (ed_notV (ed_isi (ed_var rfl r1) (.inr (.inr (.inl rfl))))) fun _ => ed_self lf (ed_var rfl r1) (ed_var rfl r2)).is (by rfl)) fun v' B' H' s' r' => q v' B' H' (s12.trans s') r'
theorem same_none (c : Code K mg) : FnOk P w K mg base CX0 0 c._law_same.f c._law_same.fd ["_law_got", "_law_due"] (spD T K fun ds d => ∃ x : PyData, x.depth < 0 ∧ x.canLay0 = true ∧ ds = [x, x] ∧ d = .bool true) := by
  refine ⟨fun vs H Q E h => ?_, fun A outer s H args us vs Q E _ _ _ _ h => ?_⟩
  · obtain ⟨_, _, _, _, _, _, ⟨x, hx, _⟩, _⟩ := h; omega
  · obtain ⟨_, _, _, _, _, _, ⟨x, hx, _⟩, _⟩ := h; omega
theorem ok_law_same (c : Code K mg) : ∀ n, FnOk P w K mg base CX0 (n + 1) c._law_same.f c._law_same.fd ["_law_got", "_law_due"] (spD T K (A_same n))
  | 0 => same_step c (same_none c)
  | n + 1 => same_step c ((ok_law_same c n).imp (spD_sub fun ds d ⟨x, hx, h2, e1, e2⟩ => ⟨x, Nat.le_of_lt_succ hx, h2, e1, e2⟩))
end
end Vk

set_option Elab.async false
set_option linter.all false
set_option maxRecDepth 100000
set_option maxHeartbeats 4000000
/-! The law's defs that ask the box (printed by pl2.py). -/
namespace Vk
open PySem L2 StX
section
variable {T : Tb} {K : PySem.W.Frag} {l p : Addr} {k n m N : Nat} {σ : L2.St} {B H B0 H0 B1 H1 : Hp} {te ta tb : TE} {t : TA} {A A2 : PyData → Prop} {D : Ends} {i : Nat}
theorem EDX.le (h : EDX T K l m te σ B A) (hk : m ≤ k) : EDX T K l k te σ B A := fun n B1 H sb f tk b Q w =>
  h (n + (k - m)) B1 H sb f tk (by rw [Nat.add_assoc, Nat.sub_add_cancel hk]; exact b) Q fun v d B' H' a s r => w v d B' H' a (s.less (Nat.le_add_right _ _)) r
theorem edx_cb1 {r : List V → Hp → VK → Prop} (h : EDX T K l k te σ B A) (h2 : ∀ v d B', A d → Sub B B' → Dp K B' v d → ∃ e, A2 e ∧ ED T K (tCB r (tCons (tC v) tNil)) σ B' e) : EDX T K l k (tCB r (tCons te tNil)) σ B A2 := fun n B1 H sb f tk b Q w =>
  h n B1 H sb f tk b _ fun v d B2 H2 a s rr => by
    obtain ⟨e, a2, he⟩ := h2 v d B2 a (sb.trans s.st.sub) rr
    exact he H2 s.st.fz (s.ok b tk) Q fun u B3 H3 s3 r3 => w u e B3 H3 a2 (s.then s3) r3
theorem sx_asg (f : Fz B H) (tk : TOk T H) (b : Bx l (n + k) B H) (h : EDX T K l k te σ B A) (q : ∀ v d B' H', A d → SB T l n B H B' H' → Dp K B' v d → D.nx (σ.set i (some v)) H') : tAsg te (gName i) D σ H :=
  h n B H (Sub.refl B) f tk b _ q
theorem sx_ret (f : Fz B H) (tk : TOk T H) (b : Bx l (n + k) B H) (h : EDX T K l k te σ B A) (q : ∀ v d B' H', A d → SB T l n B H B' H' → Dp K B' v d → D.rt v H') : tRet te D σ H :=
  h n B H (Sub.refl B) f tk b _ q
theorem edax_two (h : EDX T K l k ta σ B A) (h2 : EDX T K l m tb σ B A2) : EDAX T K l (k + m) (tCons ta (tCons tb tNil)) σ B (fun ds => ∃ d e, ds = [d, e] ∧ A d ∧ A2 e) := fun n B1 H sb f tk b Q w =>
  edax_cons h (edax_cons h2 edax_nil) n B1 H sb f tk b Q fun vs ds B' H' ⟨d, es, e1, a1, e2, es2, e3, a2, e4⟩ s r => w vs ds B' H' ⟨d, e2, by rw [e1, e3, e4], a1, a2⟩ s r
theorem sx_par {j : Nat} (f : Fz B H) (tk : TOk T H) (b : Bx l (n + (k + m)) B H) (h : EDX T K l k ta σ B A) (h2 : EDX T K l m tb σ B A2) (q : ∀ v w d e B' H', A d → A2 e → SB T l n B H B' H' → Dp K B' v d → Dp K B' w e → D.nx ((σ.set i (some v)).set j (some w)) H') : tPar i j (tCons ta (tCons tb tNil)) D σ H :=
  edax_two h h2 n B H (Sub.refl B) f tk b _ fun vs ds B' H' ⟨d, e, e1, a1, a2⟩ s r => by
    subst e1
    obtain ⟨v, w, rfl, r1, r2⟩ := DpAll.two r
    exact ⟨v, w, rfl, q v w d e B' H' a1 a2 s r1 r2⟩
/-- the list at p is in the making, the box is asked -/
structure MkB (T : Tb) (K : PySem.W.Frag) (l : Addr) (B H : Hp) (p : Addr) (n : Nat) (ds : List PyData) (B' H' : Hp) : Prop where
  s : SB T l n B H B' H'
  n : H p = none
  nB : B' p = none
  at_ : ∃ acc, H' p = some (.lst acc) ∧ DpAll K B' acc ds
theorem MkB.start (f : Fz B H) (b : Bx l n B H) (nD : H p = none) : MkB T K l B H p n [] B (upd H p (.lst [])) := ⟨SB.of f b (St.work f nD), nD, f.off nD, [], upd_same, .nil⟩
theorem sx_newM (f : Fz B H) (b : Bx l n B H) (q : ∀ p H1, MkB T K l B H p n [] B H1 → D.nx (σ.set i (some (.ref p))) H1) : tAsg (tLst tNil) (gName i) D σ H :=
  ⟨Nat.zero_le _, fun p nn => q p _ (MkB.start f b nn)⟩
theorem MkB.less {ds : List PyData} (h : m ≤ n) (mb : MkB T K l B H p n ds B1 H1) : MkB T K l B H p m ds B1 H1 := ⟨mb.s.less h, mb.n, mb.nB, mb.at_⟩
theorem MkB.step {ds : List PyData} {B2 H2 : Hp} (b : Bx l N B H) (mb : MkB T K l B H p m ds B1 H1) (s : SB T l n B1 H1 B2 H2) : MkB T K l B H p n ds B2 H2 := by
  obtain ⟨acc, h, r⟩ := mb.at_
  have hl : l ≠ p := by
    obtain ⟨_, _, e⟩ := b.2
    exact ne_of_none e mb.n
  obtain ⟨nB, h'⟩ := s.keepL hl noT_lst mb.nB h
  exact ⟨mb.s.trans s, mb.n, nB, acc, h', DpAll.sub s.st.sub _ _ r⟩
theorem sx_app {ds : List PyData} (b : Bx l N B H) (tk : TOk T H) (mb : MkB T K l B H p (n + k) ds B1 H1) (hv : σ[i]? = some (some (.ref p))) (hz : ds.length < sizeLine) (h : EDX T K l k te σ B1 A)
    (q : ∀ d B2 H2, A d → Sub B1 B2 → MkB T K l B H p n (ds ++ [d]) B2 H2 → D.nx σ H2) : tDrop (tBM K "list" rAppend (tVar i) (tCons te tNil)) D σ H1 := by
  obtain ⟨acc, hp, r⟩ := mb.at_
  refine ⟨.ref p, hv, .inl ⟨rfl, _, SqL.of hp⟩, h n B1 H1 (Sub.refl _) mb.s.st.fz (mb.s.ok b tk) mb.s.bx _ fun y d B2 H2 a s ry => ?_⟩
  have m2 := mb.step b s
  obtain ⟨acc', hp', r'⟩ := m2.at_
  refine ⟨p, acc', y, rfl, rfl, hp', by rw [r'.length]; exact hz, q d B2 _ a s.st.sub ⟨m2.s.mutL b m2.n m2.nB hp', m2.n, m2.nB, _, upd_same, DpAll.append r' (.cons ry .nil)⟩⟩
theorem MkB.done {ds : List PyData} (b : Bx l N B H) (mb : MkB T K l B H p n ds B1 H1) : ∃ B2, SB T l n B H B2 H1 ∧ Sub B1 B2 ∧ Dp K B2 (.ref p) (.list ds) := by
  obtain ⟨acc, h, r⟩ := mb.at_
  exact ⟨upd B1 p (.lst acc), mb.s.seal b mb.n mb.nB h, Sub.withL mb.nB, Dp.newL mb.nB r⟩
theorem edx_draw {xs : Ks} {j : Nat} {vs : List Nat} {tl : TE} {E : XK} (h : ED T K tl σ B (dT xs)) (hN : xs.length = N) (hw : ∀ x, wipe ((wipe σ vs).set j (some x)) vs = wipe σ vs) (hv : ∀ v, ((wipe σ vs).set j (some v))[i]? = some (some (.ref l))) (hj : ∀ v, ((wipe σ vs).set j (some v))[j]? = some (some v)) :
    EDX T K l (1 * N) (tCB (rTupOf K) (tCons (tLc (iTup K (tSz K tl)) (gName j) (tTest (tOp rEq (tCall (spTake T K) [] E (tCons (tVar i) (tCons (tC (.int 2)) tNil))) (tC (.int 0)))) (tVar j) vs) tNil)) σ B (fun d => ∃ ys : Ks, ys.Sublist xs ∧ d = dT ys) :=
  (edx_tupleOf (A2 := fun ds => ∃ ys : Ks, ys.Sublist xs ∧ ds = ys.map .str) ((edx_fil (k := 1) (enc := PyData.str) (xs := xs) h hN hw (fun v B1 _ => etx_zero ((edx_take (top := 2) (hv v) (ed_int 2) (by decide) (by decide)).imp fun d ⟨r, _, h2⟩ => ⟨r, h2⟩)) fun x _ v B1 _ rx => ed_var (hj v) rx).imp
    fun d ⟨ys, h1, h2⟩ => ⟨_, ⟨ys, h1, rfl⟩, h2⟩)).imp fun d ⟨ds, ⟨ys, h1, h2⟩, h3⟩ => ⟨ys, h1, by rw [h3, h2]; rfl⟩
theorem r_len {xs : List V} {Q : VK} (hv : σ[i]? = some (some (.ref p))) (h : H p = some (.lst xs)) (q : Q (.int xs.length) H) : tCB (rLenOf K) (tCons (tVar i) tNil) σ H Q := ⟨.ref p, hv, p, xs, rfl, .inl (SqL.of h), q⟩
end
section
variable {P : Program} {w : World} {K : PySem.W.Frag} {mg : Str → Option Value} {base : Heap} {T : Tb}
theorem box_ok {x q : Str} {st : Stmt} {f : Addr} {fd : FuncData} {N ps : List Str} {k lv : Nat} {A : List PyData → (PyData → Prop) → Prop} (F : FunD K x q (defArgs st) (defBody st) (defScope st) [] [] f fd) (S : FnScope N ps (defScope st))
    (len : ∀ ds Pd, A ds Pd → ds.length + 1 = ps.length)
    (hbody : ∀ (cdv : Value) (A' : Around) (outer : List Env) (s : Shared) (H B : Hp) (l : Addr) (n : Nat) (us : List V) (ds : List PyData) (Pd : PyData → Prop) (E : XK), Room lv (A'.deeper (PyProof.Rows.envOfC q (defScope st) s.heap.objs.size f cdv)) → Fz B H → TOk T H → Bx l (n + k) B H → DpAll K B us ds → A ds Pd →
      ∃ t : TS, PSs (cxOf CX0 P w K mg base N q (defScope st) f cdv A' outer s H E).nox (defBody st) t ∧ ∀ Q : VK, (∀ v d B' H', Pd d → SB T l n B H B' H' → Dp K B' v d → Q v H') → t { nx := fun _ H' => Q .non H', rt := Q } (start N (.ref l :: us)) H) :
    FnOk P w K mg base CX0 (lv + 1) f fd ps (spB T K k A) := by
  refine fn_ok F S (fun vs H Q E h => ?_) (fun cdv A' outer s H vs Q E hr h => ?_)
  · obtain ⟨B, l, n, us, ds, Pd, rfl, _, _, _, r, hA, _⟩ := h
    rw [List.length_cons, r.length]; exact len ds Pd hA
  · obtain ⟨B, l, n, us, ds, Pd, rfl, f1, tk, b, r, hA, q⟩ := h
    obtain ⟨t, h1, h2⟩ := hbody cdv A' outer s H B l n us ds Pd E hr f1 tk b r hA
    exact ⟨t, h1, h2 Q q⟩
end
def ppl : Ks := ["ann", "b", "zoe"]
def gds : Ks := ["a", "ab", "b", "ca", "d", "zz"]
def wds : Ks := ["opens", "opens", "bars", "bars", "lost", "left", "swap", "hand"]
/-- all the persons -/
def folk : Ks := ["ann", "b", "bob", "zoe"]
def pers : Ed → Ks
  | .hand _ p => [p]
  | _ => []
theorem ppl_folk : ∀ x ∈ ppl, x ∈ folk := by decide +kernel
theorem folk_nm : ∀ x ∈ folk, Nm x := by decide +kernel
/-- an edit of these keys; persons as drawn -/
structure EdIn (ks : Ks) (e : Ed) : Prop where
  i : ∀ x ∈ knm e, x ∈ ks
  n : (knm e).length ≤ 5
  lay : (dE e).canLay0 = true
  pe : ∀ x ∈ pers e, x ∈ folk
def A_law_ofL (ds : List PyData) (Pd : PyData → Prop) : Prop := ∃ g : Ks, g ≠ [] ∧ g.length ≤ 100 ∧ ds = [dL g] ∧ Pd = fun d => ∃ x ∈ g, d = .str x
def A_law_ofT (ds : List PyData) (Pd : PyData → Prop) : Prop := ∃ g : Ks, g ≠ [] ∧ g.length ≤ 100 ∧ ds = [dT g] ∧ Pd = fun d => ∃ x ∈ g, d = .str x
def A_law_pick (ds : List PyData) (Pd : PyData → Prop) : Prop := ∃ g : Ks, g.Nodup ∧ 4 ≤ g.length ∧ g.length ≤ 100 ∧ ds = [dL g, .int 4] ∧ Pd = fun d => ∃ p : Ks, p.Nodup ∧ p.length = 4 ∧ (∀ x ∈ p, x ∈ g) ∧ d = dL p
def A_law_names (ds : List PyData) (Pd : PyData → Prop) : Prop := ds = [.int 4] ∧ Pd = fun d => ∃ ks : Ks, WKs ks ∧ ks.length = 4 ∧ d = dT ks
def A_law_vault (ds : List PyData) (Pd : PyData → Prop) : Prop := ∃ ks : Ks, WKs ks ∧ ks.length = 4 ∧ ds = [dT ks, .int 4] ∧ Pd = fun d => ∃ L : Kss, (∀ k ∈ L, k.Sublist ks) ∧ d = dV (ks, lawLeast L)
def A_law_holders (ds : List PyData) (Pd : PyData → Prop) : Prop := ∃ ks : Ks, ks.length = 4 ∧ ds = [dT ks] ∧ Pd = fun d => ∃ h : Ks, h.length = 4 ∧ (∀ x ∈ h, x ∈ ppl) ∧ d = dT h
def A_law_edit (ds : List PyData) (Pd : PyData → Prop) : Prop := ∃ ks : Ks, WKs ks ∧ ks.length = 4 ∧ ds = [dT ks] ∧ Pd = fun d => ∃ e : Ed, EdIn ks e ∧ d = dE e
theorem strs_of {g : Ks} : ∀ {ds : List PyData}, (∀ d ∈ ds, ∃ x ∈ g, d = .str x) → ∃ h : Ks, h.length = ds.length ∧ (∀ x ∈ h, x ∈ g) ∧ ds = h.map .str
  | [], _ => ⟨[], rfl, (fun _ h => by cases h), rfl⟩
  | d :: ds, hh => by
    obtain ⟨x, hx, rfl⟩ := hh d List.mem_cons_self
    obtain ⟨h, h1, h2, h3⟩ := strs_of fun e he => hh e (List.mem_cons_of_mem _ he)
    exact ⟨x :: h, by rw [List.length_cons, h1]; rfl, fun y hy => (List.mem_cons.mp hy).elim (fun z => z ▸ hx) (h2 y), by rw [h3]; rfl⟩
theorem erase_perm : ∀ {pl : Ks} {i : Nat} (h : i < pl.length), (pl[i] :: pl.eraseIdx i).Perm pl
  | [], _, h => by cases h
  | x :: pl, 0, _ => List.Perm.refl _
  | x :: pl, i + 1, h => by
    have ih := erase_perm (pl := pl) (i := i) (Nat.lt_of_succ_lt_succ h)
    exact (List.Perm.swap _ _ _).trans (ih.cons x)
theorem map_erase {α β : Type} (g : α → β) : ∀ (pl : List α) (i : Nat), (pl.map g).eraseIdx i = (pl.eraseIdx i).map g
  | [], _ => rfl
  | x :: pl, 0 => rfl
  | x :: pl, i + 1 => by
    show g x :: (pl.map g).eraseIdx i = _
    rw [map_erase g pl i]; rfl
section
variable {P : Program} {w : World} {K : PySem.W.Frag} {mg : Str → Option Value} {base : Heap} {T : Tb}
theorem ok_law_ofL (c : Code K mg) (G__law_take : FnOk P w K mg base CX0 1 c._law_take.f c._law_take.fd ["_law_box_here", "_law_top_so"] (spTake T K)) : FnOk P w K mg base CX0 2 c._law_of.f c._law_of.fd ["_law_box_here", "_law_goods_so"] (spB T K 1 A_law_ofL) := by
  refine box_ok c._law_of.F sc__law_of (fun ds d h => ?_) (fun cdv A' outer s H B l n us ds Pd E hr f tk b r hA => ?_)
  · obtain ⟨_, _, _, rfl, _⟩ := h; rfl
  · obtain ⟨g, h0, h1, rfl, rfl⟩ := hA
    obtain ⟨u, rfl, ru⟩ := dpAll1 r
    have hg : 0 < g.length := List.length_pos_iff.mpr h0
    refine ⟨_, (pss_one (ps_ret (pe_ix (kIxL (K := K) rfl) (pv 1) (pe_call G__law_take (hr.mono (by decide)) (by rfl) c._law_take.g c._law_take.F.kp c._law_take.b .nil pass0 (pa_cons (pv 0) (pa_cons (pe_callB (kLen (K := K) rfl) (by rfl) c.m_len (by decide +kernel) (pa_cons (pv 1) pa_nil)) pa_nil))) (fun _ _ => rfl)))), fun Q q => ?_⟩
    refine sx_ret (K := K) f tk b ((edx_ixL (ds := g.map .str) (ed_var rfl ru) ((edx_take (top := (g.map PyData.str).length) rfl (ed_len (ds := g.map .str) (ed_var rfl ru) (.inl rfl)) (by rw [List.length_map]; omega) (by rw [List.length_map]; omega)).imp fun d ⟨r, h1, h2⟩ => ⟨r, h1, h2⟩)).imp fun d hd => ?_) q
    obtain ⟨x, hx, rfl⟩ := List.mem_map.mp hd
    exact ⟨x, hx, rfl⟩
theorem ok_law_ofT (c : Code K mg) (G__law_take : FnOk P w K mg base CX0 1 c._law_take.f c._law_take.fd ["_law_box_here", "_law_top_so"] (spTake T K)) : FnOk P w K mg base CX0 2 c._law_of.f c._law_of.fd ["_law_box_here", "_law_goods_so"] (spB T K 1 A_law_ofT) := by
  refine box_ok c._law_of.F sc__law_of (fun ds d h => ?_) (fun cdv A' outer s H B l n us ds Pd E hr f tk b r hA => ?_)
  · obtain ⟨_, _, _, rfl, _⟩ := h; rfl
  · obtain ⟨g, h0, h1, rfl, rfl⟩ := hA
    obtain ⟨u, rfl, ru⟩ := dpAll1 r
    have hg : 0 < g.length := List.length_pos_iff.mpr h0
    refine ⟨_, (pss_one (ps_ret (pe_ix (kIxT (K := K) rfl) (pv 1) (pe_call G__law_take (hr.mono (by decide)) (by rfl) c._law_take.g c._law_take.F.kp c._law_take.b .nil pass0 (pa_cons (pv 0) (pa_cons (pe_callB (kLen (K := K) rfl) (by rfl) c.m_len (by decide +kernel) (pa_cons (pv 1) pa_nil)) pa_nil))) (fun _ _ => rfl)))), fun Q q => ?_⟩
    refine sx_ret (K := K) f tk b ((edx_ixT (ds := g.map .str) (ed_var rfl ru) ((edx_take (top := (g.map PyData.str).length) rfl (ed_len (ds := g.map .str) (ed_var rfl ru) (.inr rfl)) (by rw [List.length_map]; omega) (by rw [List.length_map]; omega)).imp fun d ⟨r, h1, h2⟩ => ⟨r, h1, h2⟩)).imp fun d hd => ?_) q
    obtain ⟨x, hx, rfl⟩ := List.mem_map.mp hd
    exact ⟨x, hx, rfl⟩
theorem ok_law_pick (c : Code K mg) (G__law_take : FnOk P w K mg base CX0 1 c._law_take.f c._law_take.fd ["_law_box_here", "_law_top_so"] (spTake T K)) : FnOk P w K mg base CX0 2 c._law_pick.f c._law_pick.fd ["_law_box_here", "_law_goods_so", "_law_count_so"] (spB T K 4 A_law_pick) := by
  refine box_ok c._law_pick.F sc__law_pick (fun ds d h => ?_) (fun cdv A' outer s H B l n us ds Pd E hr f tk b r hA => ?_)
  · obtain ⟨_, _, _, _, rfl, _⟩ := h; rfl
  · obtain ⟨g, hnd, h4, h1, rfl, rfl⟩ := hA
    obtain ⟨u, v4, rfl, ru, r4⟩ := DpAll.two r
    cases r4
    refine ⟨_, (pss_cons (ps_par (by rfl) sc__law_pick.nd (i := 3) (j := 4) rfl rfl (by decide) rfl rfl (pa_cons (pe_callTy (kList (K := K) rfl) (by rfl) c.m_list (by decide +kernel) (pa_cons (pv 1) pa_nil)) (pa_cons (pe_lst pa_nil) pa_nil)) (by rfl)) (pss_cons (ps_for PassesOwn.never rfl (pi_range1 (by rfl) c.m_range (pa_cons (pe_callB (call_min2 rfl) (by rfl) c.m_min (by decide +kernel) (pa_cons (pe_callTy call_int1 (by rfl) c.m_int (by decide +kernel) (pa_cons (pv 2) pa_nil)) (pa_cons (pe_callB (kLen (K := K) rfl) (by rfl) c.m_len (by decide +kernel) (pa_cons (pv 3) pa_nil)) pa_nil))) pa_nil)) (pg_name (i := 5) sc__law_pick.nd rfl (Or.inl rfl)) (pss_one (ps_expr (pe_bm PySem.F.plainAttrs_list PySem.F.slot_list_append PySem.F.type_list_append mt_append (pv 4) (pa_cons (pe_bm PySem.F.plainAttrs_list PySem.F.slot_list_pop PySem.F.type_list_pop mt_popAt (pv 3) (pa_cons (pe_call G__law_take (hr.mono (by decide)) (by rfl) c._law_take.g c._law_take.F.kp c._law_take.b .nil pass0 (pa_cons (pv 0) (pa_cons (pe_callB (kLen (K := K) rfl) (by rfl) c.m_len (by decide +kernel) (pa_cons (pv 3) pa_nil)) pa_nil))) pa_nil)) pa_nil))))) (pss_one (ps_ret (pv 4))))), fun Q q => ?_⟩
    cases ru with
    | @lst a zs _ hx t =>
      obtain rfl := DpAll.strs g t
      refine ⟨.ref a, rfl, a, _, rfl, .inl (sqL_sub (fz_sub f) hx), fun p1 n1 => ⟨Nat.zero_le _, fun p2 n2 => ⟨_, _, rfl, ?_⟩⟩⟩
      have hp12 : p1 ≠ p2 := fun z => by rw [z, upd_same] at n2; cases n2
      have n2' : H p2 = none := by rw [upd_ne (Ne.symm hp12)] at n2; exact n2
      have b1 : B p1 = none := f.off n1
      have b2 : B p2 = none := f.off n2'
      have tkH := tk
      have S0 : SB T l (n + 4) B H B (upd (upd H p1 (.lst (g.map V.str))) p2 (.lst [])) := by
        have s1 := St.work (T := T) (o := HO.lst (g.map V.str)) f n1
        exact SB.of f b (s1.trans (St.work s1.fz n2))
      refine ⟨.int 4, rfl, .inl ⟨4, rfl, r_len (K := K) rfl (by show upd _ _ _ p1 = _; rw [upd_ne hp12, upd_same]) ⟨4, _, rfl, ?_⟩⟩⟩
      rw [List.length_map, if_neg (by omega)]
      refine ⟨4, rfl, by decide, by decide, ?_⟩
      refine for_it (walk_range (lo := 0) (n := 4)) (fun i σ' H' => ∃ (o5 : Option V) (pl fd : Ks), σ' = [some (.ref l), some (.ref a), some (.int 4), some (.ref p1), some (.ref p2), o5] ∧ SB T l (n + (4 - i)) B H B H' ∧ H' p1 = some (.lst (pl.map V.str)) ∧ H' p2 = some (.lst (fd.map V.str)) ∧ pl.length + i = g.length ∧ fd.length = i ∧ (pl ++ fd).Nodup ∧ (∀ x ∈ pl ++ fd, x ∈ g)) ?_ (fun _ _ _ _ _ => trivial) ?_ ?_
      · exact ⟨none, g, [], rfl, S0, by rw [upd_ne hp12, upd_same], upd_same, rfl, rfl, by rw [List.append_nil]; exact hnd, fun x hx => by rw [List.append_nil] at hx; exact hx⟩
      · rintro i x σ' H' H'' hi ⟨o5, pl, fd, rfl, s, e1, e2, e3, e4, e5, e6⟩ ⟨rfl, rfl⟩
        refine ⟨.ref p2, rfl, .inl ⟨rfl, _, SqL.of e2⟩, .ref p1, rfl, .inl ⟨rfl, _, SqL.of e1⟩, .ref l, rfl, r_len (K := K) rfl e1 ?_⟩
        refine ⟨B, l, _, n + (4 - (i + 1)), rfl, s.st.fz, s.ok b tk, ?_, ?_, ?_, fun rr H2 hrr s2 => ?_⟩
        · have : n + (4 - (i + 1)) + 1 = n + (4 - i) := by omega
          rw [this]; exact s.bx
        · rw [List.length_map]; omega
        · rw [List.length_map]; omega
        · rw [List.length_map] at hrr
          have hrr' : rr < pl.length := by omega
          have hl1 : l ≠ p1 := by
            obtain ⟨_, _, e⟩ := b.2
            exact ne_of_none e n1
          have hl2 : l ≠ p2 := by
            obtain ⟨_, _, e⟩ := b.2
            exact ne_of_none e n2'
          obtain ⟨_, e1'⟩ := s2.keepL hl1 noT_lst b1 e1
          obtain ⟨_, e2'⟩ := s2.keepL hl2 noT_lst b2 e2
          have s3 := s.trans s2
          have hy : (pl.map V.str)[rr]? = some (.str pl[rr]) := by rw [List.getElem?_map, List.getElem?_eq_getElem hrr']; rfl
          refine ⟨p1, _, rr, rr, _, rfl, rfl, e1', by omega, by omega, ?_, hy, p2, _, _, rfl, rfl, by rw [upd_ne (Ne.symm hp12)]; exact e2', ?_, ?_⟩
          · unfold seqIndex?
            simp [List.length_map]; omega
          · rw [List.length_map, ← big_line]; omega
          · have s4 := s3.mutL (ys := (pl.map V.str).eraseIdx rr) b n1 b1 e1'
            have s5 := s4.mutL (ys := fd.map V.str ++ [.str pl[rr]]) b n2' b2 (by rw [upd_ne (Ne.symm hp12)]; exact e2')
            have pm : (pl.eraseIdx rr ++ (fd ++ [pl[rr]])).Perm (pl ++ fd) := by
              have h1 : (pl[rr] :: pl.eraseIdx rr).Perm pl := erase_perm hrr'
              refine List.Perm.trans ?_ (h1.append_right fd)
              rw [← List.append_assoc]
              refine (List.perm_append_comm).trans ?_
              exact List.Perm.refl _
            refine ⟨_, pl.eraseIdx rr, fd ++ [pl[rr]], rfl, s5, ?_, ?_, ?_, ?_, pm.nodup_iff.mpr e5, fun x hx => e6 x (pm.mem_iff.mp hx)⟩
            · rw [upd_ne hp12, upd_same, map_erase]
            · rw [upd_same, List.map_append]; rfl
            · rw [List.length_eraseIdx_of_lt hrr']; omega
            · rw [List.length_append]; exact congrArg (· + 1) e4
      · rintro σ' H' ⟨o5, pl, fd, rfl, s, e1, e2, e3, e4, e5, e6⟩
        refine ⟨.ref p2, rfl, q _ (dL fd) (upd B p2 (.lst (fd.map V.str))) H' ⟨fd, ?_, e4, fun x hx => e6 x (List.mem_append_right _ hx), rfl⟩ ((s.less (by omega)).seal b n2' b2 e2) (Dp.newL b2 (DpAll.ofStrs fd))⟩
        exact (List.nodup_append.mp e5).2.1
theorem ok_law_names (c : Code K mg) (G__law_pick : FnOk P w K mg base CX0 2 c._law_pick.f c._law_pick.fd ["_law_box_here", "_law_goods_so", "_law_count_so"] (spB T K 4 A_law_pick)) : FnOk P w K mg base CX0 3 c._law_names.f c._law_names.fd ["_law_box_here", "_law_count_so"] (spB T K 4 A_law_names) := by
  refine box_ok c._law_names.F sc__law_names (fun ds d h => ?_) (fun cdv A' outer s H B l n us ds Pd E hr f tk b r hA => ?_)
  · obtain ⟨rfl, _⟩ := h; rfl
  · obtain ⟨rfl, rfl⟩ := hA
    obtain ⟨u, rfl, ru⟩ := dpAll1 r
    have hu := hr.u64
    refine ⟨_, (pss_one (ps_ret (pe_callTy (kTuple (K := K) rfl) (by rfl) c.m_tuple (by decide +kernel) (pa_cons (pe_callB (kSrt (K := K) rfl hu) (by rfl) c.m_sorted (by decide +kernel) (pa_cons (pe_call G__law_pick (hr.mono (by decide)) (by rfl) c._law_pick.g c._law_pick.F.kp c._law_pick.b .nil pass0 (pa_cons (pv 0) (pa_cons (pe_lst (pa_cons pe_str (pa_cons pe_str (pa_cons pe_str (pa_cons pe_str (pa_cons pe_str (pa_cons pe_str pa_nil))))))) (pa_cons (pv 1) pa_nil)))) pa_nil)) pa_nil)))), fun Q q => ?_⟩
    refine sx_ret (K := K) f tk b (edx_cb1 (A := fun d => ∃ ks : Ks, WKs ks ∧ ks.length = 4 ∧ d = dL ks) (edx_cb1 (edx_call (ds := [dL gds, .int 4]) rfl (eda_cons (ed_lst (ds := gds.map .str) (eda_cons (ed_str "a") (eda_cons (ed_str "ab") (eda_cons (ed_str "b") (eda_cons (ed_str "ca") (eda_cons (ed_str "d") (eda_cons (ed_str "zz") eda_nil)))))) (by show 6 ≤ sizeLine; rw [← big_line]; decide)) (eda_cons (ed_var rfl ru) eda_nil)) ⟨gds, by decide, by decide, by decide, rfl, rfl⟩) fun v d B' ⟨p, h1, h2, h3, hd⟩ sb rd => ?_) fun v d B' ⟨ks, h1, h2, hd⟩ sb rd => ?_) q
    · subst hd
      refine ⟨dL (srt sLt p), ⟨srt sLt p, ⟨srt_up sLt_to h1, ?_, fun x hx => ?_⟩, ?_, rfl⟩, (ed_srt (ed_c rd) (gd_S p)).is (by rw [sortD_S]; rfl)⟩
      · rw [(srt_perm _).length_eq, h2]; decide
      · have hx2 := h3 x ((srt_perm _).mem_iff.mp hx)
        have : ∀ x ∈ gds, Nm x := by decide +kernel
        exact this x hx2
      · rw [(srt_perm _).length_eq, h2]
    · subst hd
      exact ⟨dT ks, ⟨ks, h1, h2, rfl⟩, ed_tupleOf (ed_c rd) (.inl rfl)⟩
theorem ok_law_holders (c : Code K mg) (G__law_of : FnOk P w K mg base CX0 2 c._law_of.f c._law_of.fd ["_law_box_here", "_law_goods_so"] (spB T K 1 A_law_ofL)) : FnOk P w K mg base CX0 3 c._law_holders.f c._law_holders.fd ["_law_box_here", "_law_names_so"] (spB T K 4 A_law_holders) := by
  refine box_ok c._law_holders.F sc__law_holders (fun ds d h => ?_) (fun cdv A' outer s H B l n us ds Pd E hr f tk b r hA => ?_)
  · obtain ⟨_, _, rfl, _⟩ := h; rfl
  · obtain ⟨ks, h4, rfl, rfl⟩ := hA
    obtain ⟨u, rfl, ru⟩ := dpAll1 r
    refine ⟨_, (pss_one (ps_ret (pe_callTy (kTuple (K := K) rfl) (by rfl) c.m_tuple (by decide +kernel) (pa_cons (pe_lc (own := [("_law_name", 2)]) (g := gName 2) (tt := tYes) rfl sc__law_holders.nd (kPiT (K := K) rfl (kSz (K := K) rfl (pv 1))) (blkOk_by (N := ["_law_box_here", "_law_names_so", "_law_name"]) (sc := defScope s__law_holders) (by decide +kernel)) (fun _ _ _ _ _ => pg_name (i := 2) sc__law_holders.nd rfl (Or.inl rfl)) (fun _ _ _ _ _ => pts_nil) (fun _ _ _ _ _ => (pe_call G__law_of (hr.mono (by decide)) (by rfl) c._law_of.g c._law_of.F.kp c._law_of.b .nil pass0 (pa_cons (pv 0) (pa_cons (pe_lst (pa_cons pe_str (pa_cons pe_str (pa_cons pe_str pa_nil)))) pa_nil))))) pa_nil)))), fun Q q => ?_⟩
    refine sx_ret (K := K) f tk b ((edx_tupleOf (edx_mapT (k := 1) (N := 4) (enc := PyData.str) (xs := ks) (ed_var rfl ru) h4 (fun _ => rfl) fun x _ v1 B1 sb rx => edx_call (ds := [dL ppl]) rfl (eda_cons (ed_lst (ds := ppl.map .str) (eda_cons (ed_str "ann") (eda_cons (ed_str "b") (eda_cons (ed_str "zoe") eda_nil))) (by show 3 ≤ sizeLine; rw [← big_line]; decide)) eda_nil) ⟨ppl, by decide, by decide, rfl, rfl⟩)).imp fun d ⟨ds, ⟨h1, h2⟩, hd⟩ => ?_) q
    obtain ⟨h, e1, e2, e3⟩ := strs_of h2
    exact ⟨h, e1.trans h1, e2, by rw [hd, e3]; rfl⟩
theorem ok_law_vault (c : Code K mg) (G__law_take : FnOk P w K mg base CX0 1 c._law_take.f c._law_take.fd ["_law_box_here", "_law_top_so"] (spTake T K)) (G__law_least : FnOk P w K mg base CX0 1 c._law_least.f c._law_least.fd ["_law_sets_so"] (spD T K A_law_least)) : FnOk P w K mg base CX0 2 c._law_vault.f c._law_vault.fd ["_law_box_here", "_law_names_so", "_law_most_so"] (spB T K 17 A_law_vault) := by
  refine box_ok c._law_vault.F sc__law_vault (fun ds d h => ?_) (fun cdv A' outer s H B l n us ds Pd E hr f tk b r hA => ?_)
  · obtain ⟨_, _, _, rfl, _⟩ := h; rfl
  · obtain ⟨ks, W, h4, rfl, rfl⟩ := hA
    obtain ⟨u, v4, rfl, ru, r4⟩ := DpAll.two r
    refine ⟨_, (pss_cons (ps_set (i := 3) sc__law_vault.nd rfl (Or.inl rfl) (pe_lst pa_nil)) (pss_cons (ps_for PassesOwn.never rfl (pi_range1 (by rfl) c.m_range (pa_cons (pe_call G__law_take (hr.mono (by decide)) (by rfl) c._law_take.g c._law_take.F.kp c._law_take.b .nil pass0 (pa_cons (pv 0) (pa_cons (pe_op op_add (pv 2) pe_int) pa_nil))) pa_nil)) (pg_name (i := 4) sc__law_vault.nd rfl (Or.inl rfl)) (pss_one (ps_expr (pe_bm PySem.F.plainAttrs_list PySem.F.slot_list_append PySem.F.type_list_append mt_append (pv 3) (pa_cons (pe_callTy (kTuple (K := K) rfl) (by rfl) c.m_tuple (by decide +kernel) (pa_cons (pe_lc (own := [("_law_name", 5)]) (g := gName 5) rfl sc__law_vault.nd (kPiT (K := K) rfl (kSz (K := K) rfl (pv 1))) (blkOk_by (N := ["_law_box_here", "_law_names_so", "_law_most_so", "_law_found", "_law_turn", "_law_name"]) (sc := defScope s__law_vault) (by decide +kernel)) (fun _ _ _ _ _ => pg_name (i := 5) sc__law_vault.nd rfl (Or.inl rfl)) (fun _ _ _ _ _ => (pts_one (pt_cmpR op_eq (pe_call G__law_take (hr.mono (by decide)) (by rfl) c._law_take.g c._law_take.F.kp c._law_take.b .nil pass0 (pa_cons (pv 0) (pa_cons pe_int pa_nil))) pe_int (nomark _)))) (fun _ _ _ _ _ => (pv 5))) pa_nil)) pa_nil))))) (pss_one (ps_ret (pe_tup (pa_cons (pv 1) (pa_cons (pe_call G__law_least (hr.mono (by decide)) (by rfl) c._law_least.g c._law_least.F.kp c._law_least.b .nil pass0 (pa_cons (pv 3) pa_nil)) pa_nil))))))), fun Q q => ?_⟩
    refine sx_newM (T := T) (K := K) f b fun p H1 m1 => ?_
    refine edx_take (i := 0) (top := 5) (n := n + 16) rfl (ed_addI (ed_var rfl r4) (ed_int 1)) (by decide) (by decide) B H1 (Sub.refl B) m1.s.st.fz (m1.s.ok b tk) m1.s.bx _ fun vr dr B2 H2 ⟨rr, hrr, hdr⟩ s2 rr2 => ?_
    subst hdr
    cases rr2
    have hrr : rr ≤ 4 := by omega
    have m2 := m1.step b s2
    refine ⟨(rr : Int), rfl, by omega, by omega, ?_⟩
    have et : (rr : Int).toNat = rr := Int.toNat_natCast rr
    rw [et]
    refine for_it (walk_range (lo := 0) (n := rr)) (fun i σ' H' => ∃ (o4 o5 : Option V) (L : Kss) (B' : Hp), σ' = [some (.ref l), some u, some v4, some (.ref p), o4, o5] ∧ Sub B2 B' ∧ L.length = i ∧ (∀ k ∈ L, k.Sublist ks) ∧ MkB T K l B H p (n + 4 * (rr - i)) (L.map dT) B' H') ?_ (fun _ _ _ _ _ => trivial) ?_ ?_
    · exact ⟨none, none, [], B2, rfl, Sub.refl _, rfl, (fun _ h => by cases h), m2.less (by omega)⟩
    · rintro i x σ' H' H'' hi ⟨o4, o5, L, B', rfl, sb, e1, e2, mb⟩ ⟨rfl, rfl⟩
      have mb' : MkB T K l B H p (n + 4 * (rr - (i + 1)) + 1 * 4) (L.map dT) B' H'' := mb.less (by omega)
      refine sx_app (K := K) (n := n + 4 * (rr - (i + 1))) b tk mb' rfl (by rw [List.length_map, ← big_line]; omega) (edx_draw (xs := ks) (ed_var rfl (Dp.sub ((m1.s.st.sub.trans s2.st.sub).trans sb) _ _ ru)) h4 (fun _ => rfl) (fun _ => rfl) (fun _ => rfl)) fun d B3 H3 ⟨ys, hy, hd⟩ sb3 m3 => ?_
      subst hd
      refine ⟨_, o5, L ++ [ys], B3, rfl, sb.trans sb3, by rw [List.length_append, e1]; rfl, fun k hk => (List.mem_append.mp hk).elim (e2 k) fun z => by rw [List.mem_singleton.mp z]; exact hy, ?_⟩
      rw [List.map_append]
      exact m3
    · rintro σ' H' ⟨o4, o5, L, B', rfl, sb, e1, e2, mb⟩
      obtain ⟨B5, s5, sb5, r5⟩ := (mb.less (m := n) (by omega)).done b
      have nmL : Nmss L := fun k hk x hx => W.nm x ((e2 k hk).subset hx)
      exact sd_ret s5.st.fz (s5.ok b tk) (ed_tup (ds := [dT ks, dTT (lawLeast L)]) (eda_cons (ed_var rfl (Dp.sub s5.st.sub _ _ ru)) (eda_cons (ed_call (eda_cons (ed_var rfl r5) eda_nil) ⟨L, ⟨L, by omega, fun k hk => hk⟩, nmL, rfl, rfl⟩) eda_nil)) (by show 2 ≤ sizeLine; rw [← big_line]; decide)) fun v' B' H' s' r' => q v' _ B' H' ⟨L, e2, rfl⟩ (s5.then s') r'
theorem edx_if {l : Addr} {k : Nat} {σ : L2.St} {B : Hp} {ta tb : TE} {tt : TT} {A : PyData → Prop} {bb : Bool} (h : ETT T tt σ B bb) (h1 : bb = true → EDX T K l k ta σ B A) (h2 : bb = false → EDX T K l k tb σ B A) : EDX T K l k (tIf tt ta tb) σ B A := fun n B1 H sb f tk b Q w =>
  h H (Fz.sub sb f) tk _ fun H1 s => by
    have s' : St T B1 H B1 H1 := ⟨s.sm, Sub.refl _, f.sm s.sm, fun _ _ h _ _ => h⟩
    have sB : SB T l (n + k) B1 H B1 H1 := SB.of f b s'
    cases bb with
    | true => exact h1 rfl n B1 H1 sb sB.st.fz (sB.ok b tk) sB.bx Q fun v d B' H' a s2 r => w v d B' H' a (sB.trans s2) r
    | false => exact h2 rfl n B1 H1 sb sB.st.fz (sB.ok b tk) sB.bx Q fun v d B' H' a s2 r => w v d B' H' a (sB.trans s2) r
theorem lay_one (x : Str) (h : Nm x) : (PyData.str x).canLay0 = true := by rw [PyData.canLay0]; exact h
theorem lay_tup {ds : List PyData} (h : ∀ d ∈ ds, d.canLay0 = true) : (PyData.tuple ds).canLay0 = true := by rw [PyData.canLay0]; exact lay_all h
theorem wds_nm : ∀ x ∈ wds, Nm x := by decide +kernel
theorem ppl_nm : ∀ x ∈ ppl, Nm x := by decide +kernel
theorem ok_law_edit (c : Code K mg) (G__law_of : FnOk P w K mg base CX0 2 c._law_of.f c._law_of.fd ["_law_box_here", "_law_goods_so"] (spB T K 1 A_law_ofL)) (G__law_ofT : FnOk P w K mg base CX0 2 c._law_of.f c._law_of.fd ["_law_box_here", "_law_goods_so"] (spB T K 1 A_law_ofT)) (G__law_take : FnOk P w K mg base CX0 1 c._law_take.f c._law_take.fd ["_law_box_here", "_law_top_so"] (spTake T K)) : FnOk P w K mg base CX0 3 c._law_edit.f c._law_edit.fd ["_law_box_here", "_law_names_so"] (spB T K 7 A_law_edit) := by
  refine box_ok c._law_edit.F sc__law_edit (fun ds d h => ?_) (fun cdv A' outer s H B l n us ds Pd E hr f tk b r hA => ?_)
  · obtain ⟨_, _, _, rfl, _⟩ := h; rfl
  · obtain ⟨ks, W, h4, rfl, rfl⟩ := hA
    obtain ⟨u, rfl, ru⟩ := dpAll1 r
    have z3 : ∀ {n : Nat}, n ≤ 100 → n ≤ sizeLine := fun h => by rw [← big_line]; omega
    have k0 : ks ≠ [] := fun z => by rw [z] at h4; cases h4
    refine ⟨_, (pss_cons (ps_set (i := 2) sc__law_edit.nd rfl (Or.inl rfl) (pe_call G__law_of (hr.mono (by decide)) (by rfl) c._law_of.g c._law_of.F.kp c._law_of.b .nil pass0 (pa_cons (pv 0) (pa_cons (pe_lst (pa_cons pe_str (pa_cons pe_str (pa_cons pe_str (pa_cons pe_str (pa_cons pe_str (pa_cons pe_str (pa_cons pe_str (pa_cons pe_str pa_nil))))))))) pa_nil)))) (pss_cons (ps_par (by rfl) sc__law_edit.nd (i := 3) (j := 4) rfl rfl (by decide) rfl rfl (pa_cons (pe_call G__law_ofT (hr.mono (by decide)) (by rfl) c._law_of.g c._law_of.F.kp c._law_of.b .nil pass0 (pa_cons (pv 0) (pa_cons (pv 1) pa_nil))) (pa_cons (pe_call G__law_ofT (hr.mono (by decide)) (by rfl) c._law_of.g c._law_of.F.kp c._law_of.b .nil pass0 (pa_cons (pv 0) (pa_cons (pv 1) pa_nil))) pa_nil)) (by rfl)) (pss_cons (ps_if (pt_cmpR (kIn (K := K) rfl) (pv 2) (pe_tup (pa_cons pe_str (pa_cons pe_str pa_nil))) (by rfl)) (pss_one (ps_ret (pe_tup (pa_cons (pv 2) (pa_cons (pe_callTy (kTuple (K := K) rfl) (by rfl) c.m_tuple (by decide +kernel) (pa_cons (pe_lc (own := [("_law_name", 5)]) (g := gName 5) rfl sc__law_edit.nd (kPiT (K := K) rfl (kSz (K := K) rfl (pv 1))) (blkOk_by (N := ["_law_box_here", "_law_names_so", "_law_word", "_law_near_so", "_law_far_so", "_law_name"]) (sc := defScope s__law_edit) (by decide +kernel)) (fun _ _ _ _ _ => pg_name (i := 5) sc__law_edit.nd rfl (Or.inl rfl)) (fun _ _ _ _ _ => (pts_one (pt_cmpR op_eq (pe_call G__law_take (hr.mono (by decide)) (by rfl) c._law_take.g c._law_take.F.kp c._law_take.b .nil pass0 (pa_cons (pv 0) (pa_cons pe_int pa_nil))) pe_int (nomark _)))) (fun _ _ _ _ _ => (pv 5))) pa_nil)) pa_nil))))) pss_nil) (pss_cons (ps_if (pt_cmpR (kIn (K := K) rfl) (pv 2) (pe_tup (pa_cons pe_str (pa_cons pe_str pa_nil))) (by rfl)) (pss_one (ps_ret (pe_tup (pa_cons (pv 2) (pa_cons (pv 3) pa_nil))))) pss_nil) (pss_one (ps_ret (pe_tup (pa_cons (pv 2) (pa_cons (pv 3) (pa_cons (pe_ifExp (pt_cmpR op_eq (pv 2) pe_str (nomark _)) (pv 4) (pe_call G__law_of (hr.mono (by decide)) (by rfl) c._law_of.g c._law_of.F.kp c._law_of.b .nil pass0 (pa_cons (pv 0) (pa_cons (pe_lst (pa_cons pe_str (pa_cons pe_str (pa_cons pe_str pa_nil)))) pa_nil)))) pa_nil)))))))))), fun Q q => ?_⟩
    refine sx_asg (K := K) (k := 1) (n := n + 6) f tk b (edx_call (ds := [dL wds]) rfl (eda_cons (ed_lst (ds := wds.map .str) (eda_cons (ed_str "opens") (eda_cons (ed_str "opens") (eda_cons (ed_str "bars") (eda_cons (ed_str "bars") (eda_cons (ed_str "lost") (eda_cons (ed_str "left") (eda_cons (ed_str "swap") (eda_cons (ed_str "hand") eda_nil)))))))) (z3 (by decide))) eda_nil) ⟨wds, by decide, by decide, rfl, rfl⟩) fun v1 d1 B1 H1 ⟨wd, hwd, e1⟩ s1 r1 => ?_
    subst e1
    have tk1 := s1.ok b tk
    refine sx_par (K := K) (k := 1) (m := 1) (n := n + 4) s1.st.fz tk1 s1.bx (edx_call (ds := [dT ks]) rfl (eda_cons (ed_var rfl (Dp.sub s1.st.sub _ _ ru)) eda_nil) ⟨ks, k0, by omega, rfl, rfl⟩) (edx_call (ds := [dT ks]) rfl (eda_cons (ed_var rfl (Dp.sub s1.st.sub _ _ ru)) eda_nil) ⟨ks, k0, by omega, rfl, rfl⟩) fun v2 v3 d2 d3 B2 H2 ⟨x, hx, e2⟩ ⟨y, hy, e3⟩ s2 r2 r3 => ?_
    subst e2 e3
    have s12 := s1.trans s2
    have sub12 := s1.st.sub.trans s2.st.sub
    have r1' := Dp.sub s2.st.sub _ _ r1
    refine sd_if (b := decide (wd ∈ (["opens", "bars"] : Ks))) s12.st.fz (s12.ok b tk) (et_test (ed_in (neg := false) (ss := ["opens", "bars"]) (ed_var rfl r1') (ed_tup (eda_cons (ed_str "opens") (eda_cons (ed_str "bars") eda_nil)) (z3 (by decide))) (.inr rfl))) (fun hb H3 s3 => ?_) (fun hb H3 s3 => ?_)
    · have s13 := s12.then s3
      refine sx_ret (K := K) (k := 0 + (1 * 4 + 0)) (n := n) s13.st.fz (s13.ok b tk) s13.bx (edx_tup (edax_cons (EDX.of (A := fun d => d = .str wd) (ed_var rfl r1') rfl) (edax_cons (edx_draw (xs := ks) (ed_var rfl (Dp.sub sub12 _ _ ru)) h4 (fun _ => rfl) (fun _ => rfl) (fun _ => rfl)) edax_nil)) fun ds ⟨d, es, g1, g2, d2, es2, g3, g4, g5⟩ => by rw [g1, g3, g5]; exact z3 (by show 2 ≤ 100; decide)) fun v' d' B' H' ⟨ds, ⟨d, es, g1, g2, d2, es2, g3, ⟨ys, hys, g4⟩, g5⟩, g7⟩ s' r' => ?_
      subst g7 g1 g2 g3 g5 g4
      have inn : ∀ x ∈ ys, x ∈ ks := fun x hx => hys.subset hx
      have len : ys.length ≤ 5 := Nat.le_trans hys.length_le (by omega)
      have lay : (PyData.tuple [.str wd, dT ys]).canLay0 = true := lay_tup fun d hd => by
        rcases List.mem_cons.mp hd with rfl | hd
        · exact lay_one _ (wds_nm _ hwd)
        · rw [List.mem_singleton.mp hd]; exact lay_dT fun x hx => W.nm x (inn x hx)
      refine q v' _ B' H' ?_ (s13.trans s') r'
      rcases List.mem_cons.mp (of_decide_eq_true hb) with rfl | hb
      · exact ⟨.opens ys, ⟨inn, len, lay, fun _ z => by cases z⟩, rfl⟩
      · rw [List.mem_singleton.mp hb] at lay ⊢
        exact ⟨.bars ys, ⟨inn, len, lay, fun _ z => by cases z⟩, rfl⟩
    · have s13 := s12.then s3
      refine sd_if (b := decide (wd ∈ (["lost", "left"] : Ks))) s13.st.fz (s13.ok b tk) (et_test (ed_in (neg := false) (ss := ["lost", "left"]) (ed_var rfl r1') (ed_tup (eda_cons (ed_str "lost") (eda_cons (ed_str "left") eda_nil)) (z3 (by decide))) (.inr rfl))) (fun hb2 H4 s4 => ?_) (fun hb2 H4 s4 => ?_)
      · have s14 := s13.then s4
        have lay : (PyData.tuple [.str wd, .str x]).canLay0 = true := lay_tup fun d hd => by
          rcases List.mem_cons.mp hd with rfl | hd
          · exact lay_one _ (wds_nm _ hwd)
          · rw [List.mem_singleton.mp hd]; exact lay_one _ (W.nm x hx)
        refine sd_ret s14.st.fz (s14.ok b tk) (ed_tup (ds := [.str wd, .str x]) (eda_cons (ed_var rfl r1') (eda_cons (ed_var rfl r2) eda_nil)) (z3 (by show 2 ≤ 100; decide))) fun v' B' H' s' r' => q v' _ B' H' ?_ ((s14.less (by omega)).then s') r'
        rcases List.mem_cons.mp (of_decide_eq_true hb2) with rfl | hb2
        · exact ⟨.lost x, ⟨fun z hz => by rw [List.mem_singleton.mp hz]; exact hx, (by show 1 ≤ 5; decide), lay, fun _ z => by cases z⟩, rfl⟩
        · rw [List.mem_singleton.mp hb2] at lay ⊢
          exact ⟨.left x, ⟨fun z hz => by rw [List.mem_singleton.mp hz]; exact hx, (by show 1 ≤ 5; decide), lay, fun _ z => by cases z⟩, rfl⟩
      · have s14 := s13.then s4
        refine sx_ret (K := K) (k := 0 + (0 + (1 + 0))) (n := n + 3) s14.st.fz (s14.ok b tk) s14.bx (edx_tup (edax_cons (EDX.of (A := fun d => d = .str wd) (ed_var rfl r1') rfl) (edax_cons (EDX.of (A := fun d => d = .str x) (ed_var rfl r2) rfl) (edax_cons (A := fun d => (wd = "swap" ∧ d = .str y) ∨ (wd ≠ "swap" ∧ ∃ p ∈ ppl, d = .str p)) (edx_if (et_test (ed_eqS (ed_var rfl r1') (ed_str "swap"))) (fun hs => EDX.of (ed_var rfl r3) (.inl ⟨of_decide_eq_true hs, rfl⟩))
          (fun hs => (edx_call (ds := [dL ppl]) rfl (eda_cons (ed_lst (ds := ppl.map .str) (eda_cons (ed_str "ann") (eda_cons (ed_str "b") (eda_cons (ed_str "zoe") eda_nil))) (z3 (by decide))) eda_nil) ⟨ppl, by decide, by decide, rfl, rfl⟩).imp fun d hd => .inr ⟨of_decide_eq_false hs, hd⟩)) edax_nil))) fun ds ⟨d, es, g1, g2, d2, es2, g3, g4, d3, es3, g5, g6, g7⟩ => by rw [g1, g3, g5, g7]; exact z3 (by show 3 ≤ 100; decide)) fun v' d' B' H' ⟨ds, ⟨d, es, g1, g2, d2, es2, g3, g4, d3, es3, g5, g6, g7⟩, g8⟩ s' r' => ?_
        subst g8 g1 g2 g3 g4 g5 g7
        refine q v' _ B' H' ?_ ((s14.trans s').less (by omega)) r'
        have lay3 : ∀ z, Nm z → (PyData.tuple [.str wd, .str x, .str z]).canLay0 = true := fun z hz => lay_tup fun d hd => by
          rcases List.mem_cons.mp hd with rfl | hd
          · exact lay_one _ (wds_nm _ hwd)
          rcases List.mem_cons.mp hd with rfl | hd
          · exact lay_one _ (W.nm x hx)
          · rw [List.mem_singleton.mp hd]; exact lay_one _ hz
        rcases g6 with ⟨rfl, rfl⟩ | ⟨hns, p, hp, rfl⟩
        · refine ⟨.swap x y, ⟨fun z hz => ?_, (by show 2 ≤ 5; decide), lay3 y (W.nm y hy), fun _ z => by cases z⟩, rfl⟩
          rcases List.mem_cons.mp hz with rfl | hz
          · exact hx
          · rw [List.mem_singleton.mp hz]; exact hy
        · have hw : wd = "hand" := by
            have hall : ∀ w ∈ wds, w ∈ (["opens", "bars"] : Ks) ∨ w ∈ (["lost", "left"] : Ks) ∨ w = "swap" ∨ w = "hand" := by decide +kernel
            rcases hall wd hwd with h | h | h | h
            · exact absurd h (of_decide_eq_false hb)
            · exact absurd h (of_decide_eq_false hb2)
            · exact absurd h hns
            · exact h
          subst hw
          exact ⟨.hand x p, ⟨fun z hz => by rw [List.mem_singleton.mp hz]; exact hx, (by show 1 ≤ 5; decide), lay3 p (ppl_nm p hp), fun z hz => by rw [List.mem_singleton.mp hz]; exact ppl_folk p hp⟩, rfl⟩
end
end Vk

set_option Elab.async false
set_option linter.all false
set_option maxRecDepth 100000
set_option maxHeartbeats 400000
/-! The law's numbers: the cells, a box of them (printed by pl3.py). -/
namespace Vk
open PySem L2 StX
theorem kOrT {X : Cx} {K : PySem.W.Frag} (hK : X.K = K) {a b : Expr} {ta tb : TE} {rest : List Expr} {pos : Pos} (ha : PE X a ta) (hb : PE X (.BoolOp .Or (b :: rest) pos) tb) : PE X (.BoolOp .Or (a :: b :: rest) pos) (tOrT K ta tb) := hK ▸ pe_orT ha hb
theorem cut_upd {H : Hp} {p : Addr} {o : HO} (n : H p = none) : cut [p] (upd H p o) = H := by
  funext b
  by_cases e : b = p
  · rw [e, cut_in (by simp), n]
  · rw [cut_out (by simp [e]), upd_ne e]
/-- like spD, of several data one comes back -/
def spN (T : Tb) (K : PySem.W.Frag) (A : List PyData → (PyData → Prop) → Prop) : Sp := fun vs H Q _ => ∃ (B : Hp) (ds : List PyData) (Pd : PyData → Prop), Fz B H ∧ TOk T H ∧ DpAll K B vs ds ∧ A ds Pd ∧ ∀ v d B' H', Pd d → St T B H B' H' → Dp K B' v d → Q v H'
def spBox (T : Tb) (K : PySem.W.Frag) : Sp := fun vs H Q _ => ∃ (B : Hp) (u : V) (bs : List Int) (k : Nat), vs = [u, .int k] ∧ Fz B H ∧ TOk T H ∧ Dp K B u (.list (bs.map .int)) ∧ k < bs.length ∧ k < 100 ∧
  ∀ (p : Addr) (B' Hx : Hp) (cs : List Int), St T B H B' Hx → Hx p = none → B' p = none → Bo 1000000 cs → Q (.ref p) (upd Hx p (.lst (cs.map V.int)))
def A_law_cells (ds : List PyData) (Pd : PyData → Prop) : Prop := ∃ scr : List Int, ds = [.list (scr.map .int), .int 3] ∧ Pd = fun d => ∃ bs : List Int, bs.length ≤ 3 ∧ d = .list (bs.map .int)
section
variable {T : Tb} {K : PySem.W.Frag} {σ : L2.St} {B H : Hp} {tl : TE} {D : Ends} {tb : TS} {α : Type} {xs : List α} {enc : α → PyData} {j j2 : Nat}
theorem sd_forE (f : Fz B H) (tk : TOk T H) (h : ED T K tl σ B (.list (xs.map enc)))
    (k : ∀ B1 H1, St T B H B1 H1 → ∃ Pv : Nat → L2.St → Hp → Prop, Pv 0 σ H1 ∧ (∀ i σ' H', Pv i σ' H' → Fz B1 H') ∧
      (∀ i x v p σ' H', xs[i]? = some x → Dp K B1 v (enc x) → Pv i σ' H' → H' p = none → tb { D with nx := Pv (i + 1), ct := Pv (i + 1), bk := D.nx } ((σ'.set j (some (.int i))).set j2 (some v)) (upd H' p (.tup [.int i, v]))) ∧ ∀ σ' H', Pv xs.length σ' H' → D.nx σ' H') :
    tFor (iEnum K (tCons (tSz K tl) tNil)) (gPair K j j2) tb D σ H :=
  h H f tk _ fun v B1 H1 s1 r1 _ => by
    cases r1 with
    | @lst a zs _ hx t =>
      obtain ⟨Pv, p0, pf, ps, pd⟩ := k B1 H1 s1
      have el : zs.length = xs.length := by rw [t.length, List.length_map]
      refine ⟨a, _, rfl, sqL_sub (fz_sub s1.fz) hx, ?_⟩
      refine for_it (walk_enum (K := K) (a := a) (xs := zs)) Pv p0 (fun i σ' H' _ p => sqL_sub (fz_sub (pf i σ' H' p)) hx) (fun i x σ' H' H'' hi p y => ?_) (fun σ' H' p => pd σ' H' (by rw [← el]; exact p))
      obtain ⟨tp, x1, y1, rfl, nT, rfl, g1, g2⟩ := y
      obtain rfl := (Option.some.inj g1).symm
      obtain ⟨y0, h1, h2, h3⟩ := enc_at t g2
      exact ⟨tp, [.int i, y1], rfl, SqT.of upd_same, rfl, .int i, [y1], rfl, y1, [], rfl, rfl, ps i y0 y1 tp σ' H' h1 h3 p nT⟩
theorem sb_setV {l : Addr} {B0 H0 : Hp} {bs : List Int} {te ti : TE} {i : Int} {k n : Nat} (m : Bw T l B0 H0 bs B H) (tk : TOk T (cut [l] H0)) (h : ∀ B2, Dp K B2 (.ref l) (.list (bs.map .int)) → ED T K te σ B2 (.int i)) (hv : σ[n]? = some (some (.ref l))) (hi : ∀ H Q, Q (.int k) H → ti σ H Q) (hk : k < bs.length) (q : ∀ H2, Bw T l B0 H0 (bs.set k i) B H2 → D.nx σ H2) :
    tAsg te (gSub (tVar n) ti rSetL) D σ H := by
  obtain ⟨B2, sb, f2, r2, back⟩ := m.open (K := K)
  refine h B2 r2 H f2 (m.st.ok tk) _ fun v B' H' s r => ?_
  cases r
  have m' := back H' s.back
  refine ⟨_, hv, hi _ _ ⟨l, _, (k : Int), k, rfl, rfl, m'.at_, ?_, ?_⟩⟩
  · unfold ixN
    rw [if_pos (by omega), if_pos (by rw [List.length_map]; omega)]
    rfl
  · have e : (bs.map V.int).set k (.int i) = (bs.set k i).map V.int := by rw [List.map_set]
    rw [e]
    exact q _ m'.set
theorem len3 : (3 : Nat) ≤ sizeLine := by rw [← big_line]; decide
theorem sd_retL {t : TA} {ds : List PyData} (f : Fz B H) (tk : TOk T H) (h : EDA T K t σ B ds) (hl : ds.length ≤ sizeLine) (q : ∀ vs p B' H', St T B H B' H' → DpAll K B' vs ds → H' p = none → D.rt (.ref p) (upd H' p (.lst vs))) : tRet (tLst t) D σ H :=
  h H f tk _ fun vs B' H' s r => ⟨by rw [r.length]; exact hl, fun p n => q vs p B' H' s r n⟩
theorem part_var {i : Nat} {k : Int} (h : σ[i]? = some (some (.int k))) (H : Hp) (Q : Option Int → Hp → Prop) : tPart (tVar i) σ H Q = Q (some k) H := propext ⟨fun ⟨v, e, j, e2, q⟩ => by
  rw [h] at e; cases e; cases e2; exact q, fun q => ⟨_, h, k, rfl, q⟩⟩
theorem dp_intsI : ∀ (bs : List Int) {vs : List V}, DpAll K B vs (bs.map .int) → vs = bs.map .int
  | [], vs, h => by cases h; rfl
  | b :: bs, vs, h => by
    cases h with
    | cons h t =>
      cases h
      rw [dp_intsI bs t]; rfl
end
section
theorem sd_cells {T : Tb} {K : PySem.W.Frag} {σ : L2.St} {B H : Hp} {te : TE} {D : Ends} {i : Nat} {bs : List Int} (f : Fz B H) (tk : TOk T H) (h : ED T K te σ B (.list (bs.map .int))) (q : ∀ p B1 Hx (cs : List Int), St T B H B1 Hx → Hx p = none → B1 p = none → (cs = bs ∨ cs = [0] ∧ bs = []) → D.nx (σ.set i (some (.ref p))) (upd Hx p (.lst (cs.map V.int)))) :
    tAsg (tOrT K (tCB (rLstOf K) (tCons te tNil)) (tLst (tCons (tC (.int 0)) tNil))) (gName i) D σ H :=
  h H f tk _ fun v B1 H1 s r => by
    cases r with
    | @lst a zs _ hx t =>
      have e := dp_intsI bs t
      subst e
      refine ⟨a, _, rfl, .inl (sqL_sub (fz_sub s.fz) hx), fun p n => ⟨_, .inl ⟨_, SqL.of upd_same, rfl⟩, ?_⟩⟩
      cases bs with
      | cons b bs => exact q p B1 H1 _ s n (s.fz.off n) (.inl rfl)
      | nil =>
        have s2 := St.work (T := T) (o := .lst (([] : List Int).map V.int)) s.fz n
        exact ⟨by show 1 ≤ sizeLine; exact len1, fun p2 n2 => q p2 B1 _ [0] (s.trans s2) n2 (s2.fz.off n2) (.inr ⟨rfl, rfl⟩)⟩
variable {P : Program} {w : World} {K : PySem.W.Frag} {mg : Str → Option Value} {base : Heap} {T : Tb}
theorem ok_law_box (c : Code K mg) : FnOk P w K mg base CX0 1 c._law_box.f c._law_box.fd ["_law_script", "_law_k"] (spBox T K) := by
  refine fn_ok c._law_box.F sc__law_box (fun vs H Q E h => ?_) (fun cdv A' outer s H vs Q E hr h => ?_)
  · obtain ⟨_, _, _, _, rfl, _⟩ := h; rfl
  · obtain ⟨B, u, bs, k, rfl, f, tk, ru, hk, hk3, q⟩ := h
    refine ⟨_, (pss_cons (ps_set (i := 2) sc__law_box.nd rfl (Or.inl rfl) (pe_ifExp (pt_cmpR op_lt (pv 1) (pe_callB (kLen (K := K) rfl) (by rfl) c.m_len (by decide +kernel) (pa_cons (pv 0) pa_nil)) (nomark _)) (pe_ix (kIxL (K := K) rfl) (pv 0) (pv 1) (fun _ _ => rfl)) pe_int)) (pss_one (ps_ret (pe_lst (pa_cons (pe_op op_mul (pe_callB call_abs (by rfl) c.m_abs (by decide +kernel) (pa_cons (pv 2) pa_nil)) (pe_callTy call_int1 (by rfl) c.m_int (by decide +kernel) (pa_cons (pe_cmpR op_ge (pe_callB call_abs (by rfl) c.m_abs (by decide +kernel) (pa_cons (pv 2) pa_nil)) (pe_op op_pow pe_int pe_int) (nomark _)) pa_nil))) (pa_cons (pe_op op_add (pe_op op_add (pe_op op_mod (pe_callTy call_int1 (by rfl) c.m_int (by decide +kernel) (pa_cons (pv 2) pa_nil)) pe_int) (pe_op op_mul pe_int (pv 1))) pe_int) (pa_cons pe_int pa_nil))))))), ?_⟩
    have hix : atI (bs.map PyData.int) (k : Int) = some (.int bs[k]) := by
      unfold atI ixN
      rw [if_pos (by omega), if_pos (by rw [List.length_map]; omega)]
      show (bs.map PyData.int)[(k : Int).toNat]? = _
      rw [Int.toNat_natCast, List.getElem?_map, List.getElem?_eq_getElem hk]; rfl
    refine sd_asg (K := K) (d := .int bs[k]) f tk (ed_if (b := true) (et_test ((ed_ltI (ed_var rfl (.int k)) (ed_len (ds := bs.map .int) (ed_var rfl ru) (.inl rfl))).is (congrArg PyData.bool (decide_eq_true (by rw [List.length_map]; omega))))) (fun _ => ed_ixL (ed_var rfl ru) (ed_var rfl (.int k)) hix) fun z => by cases z) fun v1 B1 H1 s1 r1 => ?_
    generalize bs[k] = x at r1
    cases r1
    have ha : ∀ B, ED T K (tCB (fun xs H Q => ∃ i, xs = [.int i] ∧ Q (.int (if i < 0 then -i else i)) H) (tCons (tVar 2) tNil)) [some u, some (.int (k : Int)), some (.int x)] B (.int (if x < 0 then -x else x)) := fun B => ed_abs (ed_var rfl (.int x))
    generalize (if x < 0 then -x else x) = ax at ha
    obtain ⟨big, hp⟩ : ∃ big : Int, ∀ B, ED T K (tOp (rI CPow fun i j => .int (i ^ j.toNat)) (tC (.int 10)) (tC (.int 18))) [some u, some (.int (k : Int)), some (.int x)] B (.int big) := ⟨_, fun B => ed_powI (ed_int 10) (ed_int 18) ⟨by decide, by decide, by decide⟩⟩
    have hg : ∀ B, ED T K (tOp (rI0 fun i j => .bl (decide (j ≤ i))) (tCB (fun xs H Q => ∃ i, xs = [.int i] ∧ Q (.int (if i < 0 then -i else i)) H) (tCons (tVar 2) tNil)) (tOp (rI CPow fun i j => .int (i ^ j.toNat)) (tC (.int 10)) (tC (.int 18)))) [some u, some (.int (k : Int)), some (.int x)] B (.bool (decide (big ≤ ax))) := fun B => ed_geI (ha B) (hp B)
    generalize decide (big ≤ ax) = bg at hg
    have hfl : ∀ b : Bool, CMul ax (if b then 1 else 0) := fun b => .inr (by cases b <;> decide)
    refine sd_retL (K := K) s1.fz (s1.ok tk) (eda_cons (ed_mulI (ha B1) (ed_intB (hg B1)) (hfl bg)) (eda_cons (ed_addI (ed_addI (ed_modI (ed_intI (ed_var rfl (.int x))) (ed_int 2305843009213693951) (by decide)) (ed_mulI (ed_int 39373) (ed_var rfl (.int (k : Int))) (.inl (by decide)))) (ed_int 92796)) (eda_cons (ed_int 0) eda_nil))) len3 fun vs p B2 H2 s2 r2 n => ?_
    have e := dp_intsI [_, _, 0] r2
    subst e
    have s12 := s1.trans s2
    refine q p B2 H2 _ s12 n (s12.fz.off n) ⟨_, _, _, rfl, ?_, ?_, Int.le_refl 0, by omega⟩
    · have := Int.emod_nonneg x (b := 2305843009213693951) (by decide)
      omega
    · have := Int.emod_lt_of_pos x (b := 2305843009213693951) (by decide)
      omega
theorem ok_law_cells (c : Code K mg) : FnOk P w K mg base CX0 1 c._law_cells.f c._law_cells.fd ["_law_script", "_law_top_so"] (spN T K A_law_cells) := by
  refine fn_ok c._law_cells.F sc__law_cells (fun vs H Q E h => ?_) (fun cdv A' outer s H vs Q E hr h => ?_)
  · obtain ⟨B, ds, Pd, _, _, r, ⟨scr, rfl, _⟩, _⟩ := h; rw [r.length]; rfl
  · obtain ⟨B, ds, Pd, f, tk, r, ⟨scr, rfl, rfl⟩, q⟩ := h
    obtain ⟨u, v3, rfl, ru, r3⟩ := DpAll.two r
    cases r3
    refine ⟨_, (pss_cons (ps_set (i := 2) sc__law_cells.nd rfl (Or.inl rfl) (kOrT (K := K) rfl (pe_callTy (kList (K := K) rfl) (by rfl) c.m_list (by decide +kernel) (pa_cons (pe_slice (kSlL (K := K) rfl) (pv 0) po_none (po_some (pv 1))) pa_nil)) (pe_one (pe_lst (pa_cons pe_int pa_nil))))) (pss_cons (ps_for PassesOwn.never rfl (kPiE (K := K) rfl (by rfl) c.m_enumerate (pa_cons (kSz (K := K) rfl (pe_slice (kSlL (K := K) rfl) (pv 0) (po_some (pv 1)) (po_some pe_int))) pa_nil)) (kTupTg (K := K) rfl rfl (pgs_cons (pg_name (i := 3) sc__law_cells.nd rfl (Or.inl rfl)) (pgs_cons (pg_name (i := 4) sc__law_cells.nd rfl (Or.inl rfl)) pgs_nil))) (pss_cons (ps_set (i := 5) sc__law_cells.nd rfl (Or.inl rfl) (pe_op op_mod (pe_callTy call_int1 (by rfl) c.m_int (by decide +kernel) (pa_cons (pv 3) pa_nil)) (pv 1))) (pss_one (ps_asg (pe_op op_add (pe_ix (kIxL (K := K) rfl) (pv 2) (pv 5) (fun _ _ => rfl)) (pe_op op_mul (pv 4) (pe_op op_add (pv 3) pe_int))) (pg_sub (pv 2) (pv 5) set_list))))) (pss_one (ps_ret (pv 2))))), ?_⟩
    have cut3 : cutD (scr.map PyData.int) none (some 3) = (scr.take 3).map .int := by
      rw [show (some (3 : Int)) = some ((3 : Nat) : Int) from rfl, cutD_take, List.map_take]
    refine sd_cells (K := K) (bs := scr.take 3) f tk ((ed_slL (lo := none) (hi := some 3) (ed_var rfl ru) (fun H Q => part_no H Q) (fun H Q => part_var rfl H Q)).is (by rw [cut3])) fun p B1 Hx cs s1 n1 b1 hcs => ?_
    have lcs : cs.length ≤ 3 ∧ (3 < scr.length → cs.length = 3) := by
      rcases hcs with rfl | ⟨rfl, hz⟩
      · rw [List.length_take]; omega
      · refine ⟨by decide, fun h => ?_⟩
        have : (scr.take 3).length = 0 := by rw [hz]; rfl
        rw [List.length_take] at this; omega
    have f1 : Fz B1 (upd Hx p (.lst (cs.map V.int))) := s1.fz.laid b1
    have tkx : TOk T Hx := s1.ok tk
    have tk1 : TOk T (upd Hx p (.lst (cs.map V.int))) := (Sm.laid n1).tab tkx
    have tkc : TOk T (cut [p] (upd Hx p (.lst (cs.map V.int)))) := by rw [cut_upd n1]; exact tkx
    have m0 : Bw T p B1 (upd Hx p (.lst (cs.map V.int))) cs B1 (upd Hx p (.lst (cs.map V.int))) := Bw.start f1 b1 upd_same
    refine sd_forE (enc := PyData.int) (xs := (scr.drop (min 3 scr.length)).take (min 63 scr.length - min 3 scr.length)) f1 tk1 ((ed_slL (lo := some 3) (hi := some 63) (ed_var rfl (Dp.sub s1.sub _ _ ru)) (fun H Q => part_var rfl H Q) (fun H Q => part_int 63 H Q)).is ?_) fun B2 H2 s2 => ?_
    · unfold cutD
      rw [show (some (3 : Int)) = some ((3 : Nat) : Int) from rfl, show (some (63 : Int)) = some ((63 : Nat) : Int) from rfl, HT.sIx_nat, HT.sIx_nat, List.length_map, ← List.map_drop, ← List.map_take]
    refine ⟨fun i σ' H' => ∃ (o3 o4 o5 : Option V) (B' : Hp) (cs' : List Int), σ' = [some u, some (.int 3), some (.ref p), o3, o4, o5] ∧ cs'.length = cs.length ∧ Sub B2 B' ∧ Bw T p B1 (upd Hx p (.lst (cs.map V.int))) cs' B' H', ?_, ?_, ?_, ?_⟩
    · exact ⟨none, none, none, B2, cs, rfl, rfl, Sub.refl _, m0.step s2⟩
    · rintro i σ' H' ⟨_, _, _, B', _, _, _, sb, m⟩
      exact m.st.fz.sub sb
    · rintro i x v tp σ' H' hx rx ⟨o3, o4, o5, B', cs', rfl, el, sb, m⟩ nT
      cases rx
      have hi : i < ((scr.drop (min 3 scr.length)).take (min 63 scr.length - min 3 scr.length)).length := (List.getElem?_eq_some_iff.mp hx).1
      rw [List.length_take, List.length_drop] at hi
      have l3 : cs'.length = 3 := el.trans (lcs.2 (by omega))
      have m1 := m.step (St.work (T := T) (o := .tup [.int i, .int x]) m.st.fz nT)
      refine sb_asg (K := K) (i := ((i % 3 : Nat) : Int)) m1 tkc (fun B3 r3 => (ed_modI (ed_intI (ed_var rfl (.int (i : Int)))) (ed_var rfl (.int 3)) (by decide)).is (congrArg PyData.int (by omega))) fun H3 m3 => ?_
      have hk : i % 3 < cs'.length := by omega
      have hix : atI (cs'.map PyData.int) ((i % 3 : Nat) : Int) = some (.int cs'[i % 3]) := by
        unfold atI ixN
        rw [if_pos (by omega), if_pos (by rw [List.length_map]; omega)]
        show (cs'.map PyData.int)[((i % 3 : Nat) : Int).toNat]? = _
        rw [Int.toNat_natCast, List.getElem?_map, List.getElem?_eq_getElem hk]; rfl
      refine sb_setV (K := K) (k := i % 3) (i := cs'[i % 3] + x * ((i : Int) + 2)) m3 tkc (fun B3 r3 => ed_addI (ed_ixL (ed_var rfl r3) (ed_var rfl (.int _)) hix) (ed_mulI (ed_var rfl (.int x)) (ed_addI (ed_var rfl (.int (i : Int))) (ed_int 2)) (.inr ⟨by omega, by omega⟩))) rfl (fun H Q q => ⟨_, rfl, q⟩) hk fun H4 m4 => ?_
      exact ⟨_, _, _, B', _, rfl, by rw [List.length_set]; exact el, sb, m4⟩
    · rintro σ' H' ⟨o3, o4, o5, B', cs', rfl, el, sb, m⟩
      have sx : St T B1 Hx B' H' := by
        have := m.st
        rw [cut_upd n1] at this
        exact this
      exact ⟨.ref p, rfl, q _ _ _ H' ⟨cs', by omega, rfl⟩ (s1.trans (sx.seal n1 m.nB m.at_)) (Dp.newL m.nB (dp_ints cs'))⟩
end
end Vk

set_option Elab.async false
set_option linter.all false
set_option maxRecDepth 100000
set_option maxHeartbeats 1000000
/-! Vaults in normal form; what opens: the mathematics. -/
namespace Vk
open PySem L2 StX
theorem wi_iff {a b : Ks} : wi a b = true ↔ ∀ x ∈ a, x ∈ b := by
  unfold wi
  rw [List.all_eq_true]
  exact ⟨fun h x hx => of_decide_eq_true (h x hx), fun h x hx => decide_eq_true (h x hx)⟩
theorem ho_iff {L : Kss} {h : Ks} : ho L h = true ↔ ∃ o ∈ L, wi o h = true := by
  unfold ho
  exact List.any_eq_true
theorem wi_refl (a : Ks) : wi a a = true := wi_iff.mpr fun _ h => h
theorem wi_trans {a b c : Ks} (h : wi a b = true) (h2 : wi b c = true) : wi a c = true := wi_iff.mpr fun x hx => wi_iff.mp h2 x (wi_iff.mp h x hx)
theorem same_up {a b : Ks} (ua : Up sLt a) (ub : Up sLt b) (h : ∀ x, x ∈ a ↔ x ∈ b) : a = b := by
  rw [← us_id sLt_to ua, ← us_id sLt_to ub]
  exact us_same sLt_to h
/-- a within b, not smaller: the same -/
theorem wi_size {a b : Ks} (ua : Up sLt a) (ub : Up sLt b) (h : wi a b = true) (hl : b.length ≤ a.length) : a = b := by
  refine same_up ua ub fun x => ⟨fun hx => wi_iff.mp h x hx, fun hx => Classical.byContradiction fun hn => ?_⟩
  have h1 : a.length ≤ (b.erase x).length := nodup_le a (b.erase x) (ua.nodup sLt_to) fun y hy => (List.mem_erase_of_ne fun (e : y = x) => hn (by rw [← e]; exact hy)).mpr (wi_iff.mp h y hy)
  rw [List.length_erase_of_mem hx] at h1
  have := List.length_pos_of_mem hx
  omega
theorem zLt_len {a b : Ks} (h : zLt a b = true) : a.length ≤ b.length := by
  unfold zLt at h
  rw [Bool.or_eq_true] at h
  rcases h with h | h
  · exact Nat.le_of_lt (of_decide_eq_true h)
  · rw [Bool.and_eq_true] at h
    exact Nat.le_of_eq (of_decide_eq_true h.1)
theorem leastF_mem : ∀ (n : Nat) (S : Kss), S.length = n → Up zLt S → (∀ l ∈ S, Up sLt l) → (∀ l, l ∈ leastF S ↔ l ∈ S ∧ ∀ m ∈ S, wi m l = true → m = l) ∧ ∀ m ∈ S, ∃ o ∈ leastF S, wi o m = true := by
  intro n
  induction n with
  | zero =>
    intro S h _ _
    rw [List.length_eq_zero_iff.mp h]
    exact ⟨fun l => ⟨fun h => (by cases h), fun h => (by cases h.1)⟩, fun m h => (by cases h)⟩
  | succ n ih =>
    intro S h u us
    rcases List.eq_nil_or_concat S with z | ⟨M, b, rfl⟩
    · rw [z] at h; cases h
    · rw [List.concat_eq_append] at *
      have hM : M.length = n := by rw [List.length_append] at h; exact Nat.succ.inj h
      unfold Up at u
      rw [List.pairwise_append] at u
      have hb : ∀ x ∈ M, zLt x b = true := fun x hx => u.2.2 x hx b (List.mem_singleton.mpr rfl)
      have uM : ∀ l ∈ M, Up sLt l := fun l hl => us l (List.mem_append_left _ hl)
      have ub : Up sLt b := us b (by simp)
      obtain ⟨ih1, ih2⟩ := ih M hM u.1 uM
      have nb : ∀ l ∈ M, wi b l = true → False := fun l hl hw => by
        have e := wi_size ub (uM l hl) hw (zLt_len (hb l hl))
        have := hb l hl
        rw [e, zLt_to.irr] at this
        cases this
      rw [leastF_snoc]
      by_cases hany : (leastF M).any (fun o => wi o b) = true
      · rw [if_pos hany]
        obtain ⟨o, ho1, ho2⟩ := List.any_eq_true.mp hany
        have oM := ((ih1 o).mp ho1).1
        refine ⟨fun l => ?_, fun m hm => ?_⟩
        · rw [ih1]
          constructor
          · rintro ⟨h1, h2⟩
            refine ⟨List.mem_append_left _ h1, fun m hm hw => ?_⟩
            rcases List.mem_append.mp hm with hm | hm
            · exact h2 m hm hw
            · rw [List.mem_singleton.mp hm] at hw
              exact absurd hw (fun z => nb l h1 z)
          · rintro ⟨h1, h2⟩
            rcases List.mem_append.mp h1 with h1 | h1
            · exact ⟨h1, fun m hm hw => h2 m (List.mem_append_left _ hm) hw⟩
            · rw [List.mem_singleton.mp h1] at h2
              have e := h2 o (List.mem_append_left _ oM) ho2
              have := hb o oM
              rw [e, zLt_to.irr] at this
              cases this
        · rcases List.mem_append.mp hm with hm | hm
          · exact ih2 m hm
          · rw [List.mem_singleton.mp hm]; exact ⟨o, ho1, ho2⟩
      · rw [if_neg hany]
        refine ⟨fun l => ?_, fun m hm => ?_⟩
        · constructor
          · intro hl
            rcases List.mem_append.mp hl with hl | hl
            · obtain ⟨h1, h2⟩ := (ih1 l).mp hl
              refine ⟨List.mem_append_left _ h1, fun m hm hw => ?_⟩
              rcases List.mem_append.mp hm with hm | hm
              · exact h2 m hm hw
              · rw [List.mem_singleton.mp hm] at hw
                exact absurd hw (fun z => nb l h1 z)
            · rw [List.mem_singleton.mp hl]
              refine ⟨by simp, fun m hm hw => ?_⟩
              rcases List.mem_append.mp hm with hm | hm
              · obtain ⟨o, ho1, ho2⟩ := ih2 m hm
                exact (hany (List.any_eq_true.mpr ⟨o, ho1, wi_trans ho2 hw⟩)).elim
              · exact List.mem_singleton.mp hm
          · rintro ⟨h1, h2⟩
            rcases List.mem_append.mp h1 with h1 | h1
            · exact List.mem_append_left _ ((ih1 l).mpr ⟨h1, fun m hm hw => h2 m (List.mem_append_left _ hm) hw⟩)
            · exact List.mem_append_right _ h1
        · rcases List.mem_append.mp hm with hm | hm
          · obtain ⟨o, ho1, ho2⟩ := ih2 m hm
            exact ⟨o, List.mem_append_left _ ho1, ho2⟩
          · rw [List.mem_singleton.mp hm]
            exact ⟨b, by simp, wi_refl b⟩
theorem leastF_subl : ∀ (n : Nat) (S : Kss), S.length = n → (leastF S).Sublist S := by
  intro n
  induction n with
  | zero => intro S h; rw [List.length_eq_zero_iff.mp h]; exact List.Sublist.refl _
  | succ n ih =>
    intro S h
    rcases List.eq_nil_or_concat S with z | ⟨M, b, rfl⟩
    · rw [z] at h; cases h
    · rw [List.concat_eq_append] at *
      have hM : M.length = n := by rw [List.length_append] at h; exact Nat.succ.inj h
      rw [leastF_snoc]
      split
      · exact (ih M hM).trans (List.sublist_append_left _ _)
      · exact (ih M hM).append (List.Sublist.refl _)
theorem srtz_up (L : Kss) : Up zLt (srt zLt (us tLt L)) := srt_up zLt_to (us_nodup tLt_to L)
theorem srtz_mem {L : Kss} {l : Ks} : l ∈ srt zLt (us tLt L) ↔ l ∈ L := (srt_perm _).mem_iff.trans mem_us
theorem mem_least {L : Kss} (u : ∀ l ∈ L, Up sLt l) (l : Ks) : l ∈ least L ↔ l ∈ L ∧ ∀ m ∈ L, wi m l = true → m = l := by
  unfold least
  rw [(srt_perm _).mem_iff, (leastF_mem _ _ rfl (srtz_up L) fun l hl => u l (srtz_mem.mp hl)).1 l]
  exact ⟨fun h => ⟨srtz_mem.mp h.1, fun m hm => h.2 m (srtz_mem.mpr hm)⟩, fun h => ⟨srtz_mem.mpr h.1, fun m hm => h.2 m (srtz_mem.mp hm)⟩⟩
theorem least_below {L : Kss} (u : ∀ l ∈ L, Up sLt l) {m : Ks} (hm : m ∈ L) : ∃ o ∈ least L, wi o m = true := by
  obtain ⟨o, h1, h2⟩ := (leastF_mem _ _ rfl (srtz_up L) fun l hl => u l (srtz_mem.mp hl)).2 m (srtz_mem.mpr hm)
  exact ⟨o, (srt_perm _).mem_iff.mpr h1, h2⟩
theorem least_up (L : Kss) : Up tLt (least L) := srt_up tLt_to ((leastF_subl _ _ rfl).nodup ((srtz_up L).nodup zLt_to))
theorem map_us {L : Kss} (u : ∀ l ∈ L, Up sLt l) : L.map (us sLt) = L := by
  have : L.map (us sLt) = L.map id := List.map_congr_left fun l hl => us_id sLt_to (u l hl)
  rw [this, List.map_id]
/-- rising, of rising sets, none within another -/
structure Nf (L : Kss) : Prop where
  u : Up tLt L
  e : ∀ l ∈ L, Up sLt l
  a : ∀ l ∈ L, ∀ m ∈ L, wi m l = true → m = l
theorem Nf.least {L : Kss} (n : Nf L) : least L = L := by
  have e1 : us tLt (Vk.least L) = us tLt L := us_same tLt_to fun x => by
    rw [mem_least n.e]
    exact ⟨fun h => h.1, fun h => ⟨h, fun m hm => n.a x h m hm⟩⟩
  rw [us_id tLt_to (least_up L), us_id tLt_to n.u] at e1
  exact e1
theorem Nf.leastV {ks : Ks} {L : Kss} (n : Nf L) : leastV ks L = (ks, L) := by
  unfold Vk.leastV
  rw [map_us n.e, n.least]
theorem us_all (L : Kss) : ∀ l ∈ L.map (us sLt), Up sLt l := fun l hl => by
  obtain ⟨a, _, rfl⟩ := List.mem_map.mp hl
  exact us_up sLt_to a
theorem nf_leastV (ks : Ks) (L : Kss) : Nf (leastV ks L).2 := by
  have u := us_all L
  refine ⟨least_up _, fun l hl => u l (((mem_least u l).mp hl).1), fun l hl m hm hw => ?_⟩
  exact ((mem_least u l).mp hl).2 m ((mem_least u m).mp hm).1 hw
theorem nf_lawLeast {L : Kss} (u : ∀ l ∈ L, Up sLt l) : Nf (lawLeast L) := by
  unfold lawLeast
  have hm : ∀ l, l ∈ (us tLt L).filter (fun own => decide (((us tLt L).filter (nearL own)) = [])) → l ∈ us tLt L ∧ (us tLt L).filter (nearL l) = [] := fun l hl => ⟨(List.mem_filter.mp hl).1, of_decide_eq_true (List.mem_filter.mp hl).2⟩
  refine ⟨(us_up tLt_to L).sublist (List.filter_sublist), fun l hl => u l (mem_us.mp (hm l hl).1), fun l hl m hm2 hw => ?_⟩
  obtain ⟨h1, h2⟩ := hm l hl
  obtain ⟨h3, h4⟩ := hm m hm2
  refine Classical.byContradiction fun hne => ?_
  have : m ∈ (us tLt L).filter (nearL l) := List.mem_filter.mpr ⟨h3, ?_⟩
  · rw [h2] at this; cases this
  · unfold nearL
    rw [Bool.and_eq_true]
    refine ⟨by simp [hne], decide_eq_true ?_⟩
    rw [List.filter_eq_nil_iff]
    intro x hx
    have := wi_iff.mp hw x hx
    simp [this]
/-! what opens -/
theorem wi_us {a h : Ks} : wi (us sLt a) h = wi a h := by
  rw [Bool.eq_iff_iff, wi_iff, wi_iff]
  exact ⟨fun q x hx => q x (mem_us.mpr hx), fun q x hx => q x (mem_us.mp hx)⟩
theorem ho_leastV (ks : Ks) (L : Kss) (h : Ks) : ho (leastV ks L).2 h = ho L h := by
  rw [Bool.eq_iff_iff, ho_iff, ho_iff]
  have u := us_all L
  constructor
  · rintro ⟨o, h1, h2⟩
    obtain ⟨a, ha, rfl⟩ := List.mem_map.mp ((mem_least u o).mp h1).1
    exact ⟨a, ha, by rw [← wi_us]; exact h2⟩
  · rintro ⟨a, ha, h2⟩
    obtain ⟨o, ho1, ho2⟩ := least_below u (List.mem_map.mpr ⟨a, ha, rfl⟩)
    exact ⟨o, ho1, wi_trans ho2 (by rw [wi_us]; exact h2)⟩
theorem ho_eithr (v o : Vt) (h : Ks) : ho (eithr v o).2 h = (ho v.2 h || ho o.2 h) := by
  unfold eithr
  rw [ho_leastV]
  unfold ho
  exact List.any_append
theorem wi_app (a b h : Ks) : wi (a ++ b) h = (wi a h && wi b h) := by unfold wi; exact List.all_append
theorem ho_bth (v o : Vt) (h : Ks) : ho (bth v o).2 h = (ho v.2 h && ho o.2 h) := by
  unfold bth
  rw [ho_leastV, Bool.eq_iff_iff, Bool.and_eq_true, ho_iff, ho_iff, ho_iff]
  constructor
  · rintro ⟨x, hx, hw⟩
    obtain ⟨a, ha, hx⟩ := List.mem_flatMap.mp hx
    obtain ⟨b, hb, rfl⟩ := List.mem_map.mp hx
    rw [wi_app, Bool.and_eq_true] at hw
    exact ⟨⟨a, ha, hw.1⟩, ⟨b, hb, hw.2⟩⟩
  · rintro ⟨⟨a, ha, h1⟩, ⟨b, hb, h2⟩⟩
    exact ⟨a ++ b, List.mem_flatMap.mpr ⟨a, ha, List.mem_map.mpr ⟨b, hb, rfl⟩⟩, by rw [wi_app, h1, h2]; rfl⟩
theorem ho_ever : ∀ (S : List Stt) (f : Vt) (h : Ks), ho (ever f S).2 h = (ho f.2 h || S.any fun s => ho s.1.2 h)
  | [], f, h => by unfold ever; simp
  | s :: S, f, h => by
    show ho (ever (eithr f s.1) S).2 h = _
    rw [ho_ever S, ho_eithr, List.any_cons, Bool.or_assoc]
theorem ho_alws : ∀ (S : List Stt) (f : Vt) (h : Ks), ho (alws f S).2 h = (ho f.2 h && S.all fun s => ho s.1.2 h)
  | [], f, h => by unfold alws; simp
  | s :: S, f, h => by
    show ho (alws (bth f s.1) S).2 h = _
    rw [ho_alws S, ho_bth, List.all_cons, Bool.and_assoc]
theorem ho_self {L : Kss} {a : Ks} (h : a ∈ L) : ho L a = true := ho_iff.mpr ⟨a, h, wi_refl a⟩
theorem newO_nil {v o : Vt} (h : ∀ a ∈ o.2, ho v.2 a = true) : newO v o = [] := by
  unfold newO
  rw [List.filter_eq_nil_iff]
  intro a ha
  rw [h a ha]; decide
/-- what opens the vault of always opens each state -/
theorem always_milder {s0 : Stt} {S : List Stt} {s : Stt} (h : s ∈ s0 :: S) : newO s.1 (alws s0.1 S) = [] := newO_nil fun a ha => by
  have := ho_self ha
  rw [ho_alws, Bool.and_eq_true, List.all_eq_true] at this
  rcases List.mem_cons.mp h with rfl | h
  · exact this.1
  · exact this.2 s h
theorem ever_milder {s0 : Stt} {S : List Stt} {s : Stt} (h : s ∈ s0 :: S) : newO (ever s0.1 S) s.1 = [] := newO_nil fun a ha => by
  rw [ho_ever, Bool.or_eq_true, List.any_eq_true]
  rcases List.mem_cons.mp h with rfl | h
  · exact .inl (ho_self ha)
  · exact .inr ⟨s, h, ho_self ha⟩
theorem gthat_ok {v : Vt} {h l g : Ks} (q : g ∈ gthat v h l) : gop v l g = true ∧ gop v h g = false := by
  unfold gthat at q
  have := (List.mem_filter.mp (least_sub q)).2
  rw [Bool.and_eq_true, Bool.not_eq_true'] at this
  exact this
theorem fo_at (S : List Stt) (h : Ks) : fo S h = if S.any (fun s => ho s.1.2 h) then .int (S.findIdx fun s => ho s.1.2 h) else .none := by
  have main : ∀ (S : List Stt) (k : Nat), (((S.zipIdx k).filter fun z => ho z.1.1.2 h).map fun z => PyData.int z.2).head? = if S.any (fun s => ho s.1.2 h) then some (.int ((k + S.findIdx fun s => ho s.1.2 h : Nat) : Int)) else none := by
    intro S
    induction S with
    | nil => intro k; rfl
    | cons s S ih =>
      intro k
      rw [List.zipIdx_cons, List.any_cons, List.findIdx_cons]
      cases hs : ho s.1.2 h with
      | true =>
        rw [List.filter_cons_of_pos (by exact hs)]
        simp
      | false =>
        rw [List.filter_cons_of_neg (by rw [hs]; decide), ih (k + 1)]
        simp only [Bool.false_or, cond_false]
        have : k + 1 + S.findIdx (fun s => ho s.1.2 h) = k + (S.findIdx (fun s => ho s.1.2 h) + 1) := by omega
        rw [this]
  unfold fo
  have m := main S 0
  rw [m]
  split
  · rw [Nat.zero_add]; rfl
  · rfl
/-! states -/
/-- good holders -/
def Hk (h : Ks) : Prop := h.length ≤ 100 ∧ ∀ x ∈ h, x ∈ folk
/-- good states over ks -/
structure Gs (ks : Ks) (s : Stt) : Prop where
  v : Nv ks s.1
  f : Nf s.1.2
  h : Hk s.2
theorem Gs.edOk {ks : Ks} {s : Stt} {e : Ed} (W : WKs ks) (g : Gs ks s) (he : EdIn ks e) : EdOk s.1 e :=
  ⟨g.v.k.symm ▸ W, g.v.k.symm ▸ g.v.i, g.v.ok, g.v.k.symm ▸ he.i, he.n⟩
theorem hk_hand {ks h : Ks} {x p : Str} (hh : Hk h) (hp : p ∈ folk) : Hk (handE ks h x p) := by
  unfold handE
  refine ⟨?_, fun y hy => ?_⟩
  · rw [List.length_map, List.length_zip]
    exact Nat.le_trans (Nat.min_le_right _ _) hh.1
  · obtain ⟨z, hz, rfl⟩ := List.mem_map.mp hy
    by_cases hx : z.1 = x
    · rw [if_pos hx]; exact hp
    · rw [if_neg hx]; exact hh.2 _ (List.of_mem_zip hz).2
theorem Gs.edt {ks : Ks} {s : Stt} {e : Ed} (W : WKs ks) (g : Gs ks s) (he : EdIn ks e) : Gs ks (edt s.1 s.2 e) := by
  unfold Vk.edt
  refine ⟨?_, nf_leastV _ _, ?_⟩
  · rw [g.v.k]
    exact leastV_nv W (edO_in g.v.i he.i)
  · cases e with
    | hand x p => exact hk_hand g.h (he.pe p (by show p ∈ [p]; simp))
    | _ => exact g.h
theorem Gs.hand {ks : Ks} {s : Stt} {x p : Str} (g : Gs ks s) : Vk.edt s.1 s.2 (.hand x p) = (s.1, handE s.1.1 s.2 x p) := by
  show (leastV s.1.1 s.1.2, handE s.1.1 s.2 x p) = _
  rw [g.f.leastV]
theorem runE_good {ks : Ks} (W : WKs ks) : ∀ (es : List Ed) (s : Stt), Gs ks s → (∀ e ∈ es, EdIn ks e) → okE s es ∧ ∀ t ∈ runE s es, Gs ks t
  | [], s, _, _ => ⟨trivial, fun _ h => by cases h⟩
  | e :: es, s, g, h => by
    have he := h e List.mem_cons_self
    have g2 := g.edt W he
    obtain ⟨h1, h2⟩ := runE_good W es _ g2 fun e he => h e (List.mem_cons_of_mem _ he)
    exact ⟨⟨g.edOk W he, h1⟩, fun t ht => (List.mem_cons.mp ht).elim (fun z => z ▸ g2) (h2 t)⟩
theorem sOk_of {ks : Ks} {S : List Stt} (W : WKs ks) (h : ∀ s ∈ S, Gs ks s) : SOk ks S := ⟨W, fun s hs => (h s hs).v⟩
theorem ever_nv {ks : Ks} (W : WKs ks) : ∀ (S : List Stt) (f : Vt), Nv ks f → (∀ s ∈ S, Nv ks s.1) → Nv ks (ever f S)
  | [], f, h, _ => h
  | s :: S, f, h, hs => ever_nv W S _ (eithr_nv W h (hs s List.mem_cons_self)) fun t ht => hs t (List.mem_cons_of_mem _ ht)
theorem alws_nv {ks : Ks} (W : WKs ks) : ∀ (S : List Stt) (f : Vt), Nv ks f → (∀ s ∈ S, Nv ks s.1) → Nv ks (alws f S)
  | [], f, h, _ => h
  | s :: S, f, h, hs => alws_nv W S _ (bth_nv W h (hs s List.mem_cons_self)) fun t ht => hs t (List.mem_cons_of_mem _ ht)
theorem lay_dV {v : Vt} (h1 : Nms v.1) (h2 : Nmss v.2) : (dV v).canLay0 = true := by
  unfold dV
  refine lay_tup fun d hd => ?_
  rcases List.mem_cons.mp hd with rfl | hd
  · exact lay_dT h1
  · rw [List.mem_singleton.mp hd]; exact lay_dTT h2
theorem Nv.lay {ks : Ks} {v : Vt} (W : WKs ks) (n : Nv ks v) : (dV v).canLay0 = true := lay_dV (n.k.symm ▸ W.nm) n.ok.nm
theorem Hk.lay {h : Ks} (k : Hk h) : (dT h).canLay0 = true := lay_dT fun x hx => folk_nm x (k.2 x hx)
theorem newO_sub {v o : Vt} {a : Ks} (h : a ∈ newO v o) : a ∈ o.2 := (List.mem_filter.mp h).1
theorem us_folk {l : Ks} (h : ∀ x ∈ l, x ∈ folk) : (us sLt l).length ≤ 5 := Nat.le_trans (nodup_le _ folk (us_nodup sLt_to l) fun x hx => h x (mem_us.mp hx)) (by decide)
theorem gs_law {ks : Ks} {L : Kss} {h : Ks} (W : WKs ks) (hL : ∀ k ∈ L, k.Sublist ks) (hh : Hk h) : Gs ks ((ks, lawLeast L), h) := by
  have uL : ∀ l ∈ L, Up sLt l := fun l hl => W.up.sublist (hL l hl)
  have hin : ∀ l ∈ lawLeast L, l ∈ L := fun l hl => mem_us.mp (List.mem_filter.mp hl).1
  have inK : InK ks (lawLeast L) := fun l hl x hx => (hL l (hin l hl)).subset hx
  refine ⟨⟨rfl, inK, ⟨fun l hl x hx => W.nm x (inK l hl x hx), ?_, fun l hl => Nat.le_trans (hL l (hin l hl)).length_le (Nat.le_trans W.few (by decide))⟩⟩, nf_lawLeast uL, hh⟩
  have h1 : (lawLeast L).length ≤ (subsU ks).length := nodup_le _ _ ((nf_lawLeast uL).u.nodup tLt_to) fun l hl => of_sub W.up (uL l (hin l hl)) (inK l hl)
  exact Nat.le_trans h1 (by have := W.pow; omega)
end Vk

set_option Elab.async false
set_option linter.all false
set_option maxRecDepth 100000
set_option maxHeartbeats 1000000
/-! The law's judge of a watch (printed by pl4.py). -/
namespace Vk
open PySem L2 StX
open SlX (SlO Slt slH SCls Slot1 putS SlR)
section
variable {T : Tb} {K : PySem.W.Frag} {C : Addr} {σ : L2.St} {B H B' H' B1 H1 : Hp} {ta tb te : TE} {t : TA} {D : Ends} {i p q : Nat} {ds es : List PyData} {d e : PyData}
/-- a watch made -/
theorem sd_make {E : XK} {vt : Vt} {hs : Ks} (f : Fz B H) (tk : TOk T H) (h : EDA T K t σ B [dV vt, dT hs]) (k : ∀ (B1 H1 B' H' : Hp) (a : WA), St T B H B1 H1 → H1 a.x = none → H1 a.dx = none → St T B1 H1 B' H' → Wt K C B' H' a [(vt, hs)] [] → Nn H1 a.l1 → Nn H1 a.l2 → D.nx (σ.set i (some (.ref a.x))) H') :
    tAsg (tMake C (spInit T K C) [] E t) (gName i) D σ H :=
  h H f tk _ fun vs B1 H1 s r => by
    obtain ⟨v, u, rfl, r1, r2⟩ := DpAll.two r
    exact fun x dx n1 n2 hne => ⟨B1, H1, x, dx, v, u, vt, hs, rfl, s.fz, s.ok tk, n1, n2, hne, rfl, r1, r2, fun B' H' a e1 e2 s' w m1 m2 => ⟨rfl, by subst e1; subst e2; exact k B1 H1 B' H' a s n1 n2 s' w m1 m2⟩⟩
/-- x = a + b, the new list still open -/
theorem sd_mkcat (f : Fz B H) (tk : TOk T H) (h : ED T K ta σ B (.list ds)) (h2 : ED T K tb σ B (.list es)) (hz : ds.length + es.length ≤ sizeLine) (k : ∀ p B' H' zs, St T B H B' H' → H' p = none → DpAll K B' zs (ds ++ es) → D.nx (σ.set i (some (.ref p))) (upd H' p (.lst zs))) : tAsg (tOp (rCatS K) ta tb) (gName i) D σ H :=
  h H f tk _ fun v B1 H1 s1 r1 => h2.sub s1.sub H1 s1.fz (s1.ok tk) _ fun w B2 H2 s2 r2 => by
    cases r1 with
    | lst hx t =>
    cases r2 with
    | lst hy t2 =>
      exact ⟨_, _, _, _, rfl, rfl, sqL_sub (fz_sub s2.fz) (sqL_sub s2.sub hx), sqL_sub (fz_sub s2.fz) hy, by rw [t.length, t2.length]; exact hz, fun p n => k p B2 H2 _ (s1.trans s2) n (DpAll.append (DpAll.sub s2.sub _ _ t) t2)⟩
/-- two lists in the making -/
structure Mk2 (T : Tb) (K : PySem.W.Frag) (B H : Hp) (p q : Addr) (ds es : List PyData) (B' H' : Hp) : Prop where
  st : St T B H B' H'
  np : Nn H p
  nq : Nn H q
  pq : p ≠ q
  bp : B' p = none
  bq : B' q = none
  ap : ∃ acc, H' p = some (.lst acc) ∧ DpAll K B' acc ds
  aq : ∃ acc, H' q = some (.lst acc) ∧ DpAll K B' acc es
variable {p q : Addr}
theorem Mk2.step {B2 H2 : Hp} (m : Mk2 T K B H p q ds es B1 H1) (s : St T B1 H1 B2 H2) : Mk2 T K B H p q ds es B2 H2 := by
  obtain ⟨a1, h1, r1⟩ := m.ap
  obtain ⟨a2, h2, r2⟩ := m.aq
  obtain ⟨x1, x2⟩ := s.keepL noT_lst m.bp h1
  obtain ⟨y1, y2⟩ := s.keepL noT_lst m.bq h2
  exact ⟨m.st.trans s, m.np, m.nq, m.pq, x1, y1, ⟨a1, x2, DpAll.sub s.sub _ _ r1⟩, ⟨a2, y2, DpAll.sub s.sub _ _ r2⟩⟩
theorem St.sealN {xs : List V} (s : St T B H B' H') (n : Nn H p) (nB : B' p = none) (h : H' p = some (.lst xs)) : St T B H (upd B' p (.lst xs)) H' := by
  refine ⟨s.sm, s.sub.trans (Sub.withL nB), s.fz.withL noT_lst h, fun a o hB e no => ?_⟩
  by_cases z : a = p
  · rw [z] at e; exact absurd no (n o e)
  · rw [upd_ne z]; exact s.new a o hB e no
theorem Mk2.done (m : Mk2 T K B H p q ds es B1 H1) : ∃ B2, St T B H B2 H1 ∧ Sub B1 B2 ∧ Dp K B2 (.ref p) (.list ds) ∧ Dp K B2 (.ref q) (.list es) := by
  obtain ⟨a1, h1, r1⟩ := m.ap
  obtain ⟨a2, h2, r2⟩ := m.aq
  have s1 := m.st.sealN m.np m.bp h1
  have bq : upd B1 p (.lst a1) q = none := by rw [upd_ne m.pq.symm]; exact m.bq
  have s2 := s1.sealN m.nq bq h2
  exact ⟨_, s2, (Sub.withL m.bp).trans (Sub.withL bq), Dp.sub (Sub.withL bq) _ _ (Dp.newL m.bp r1), Dp.newL bq (DpAll.sub (Sub.withL m.bp) _ _ r2)⟩
theorem Mk2.appP {i : Nat} (m : Mk2 T K B H p q ds es B1 H1) (tk : TOk T H1) (hv : σ[i]? = some (some (.ref p))) (hz : ds.length < sizeLine) (h : ED T K te σ B1 d)
    (k : ∀ B2 H2, Sub B1 B2 → Mk2 T K B H p q (ds ++ [d]) es B2 H2 → D.nx σ H2) : tDrop (tBM K "list" rAppend (tVar i) (tCons te tNil)) D σ H1 := by
  obtain ⟨acc, hp, r⟩ := m.ap
  refine ⟨.ref p, hv, .inl ⟨rfl, _, SqL.of hp⟩, h H1 m.st.fz tk _ fun y B2 H2 s ry => ?_⟩
  have m2 := m.step s
  obtain ⟨a1, h1, r1⟩ := m2.ap
  obtain ⟨a2, h2, r2⟩ := m2.aq
  exact ⟨p, a1, y, rfl, rfl, h1, by rw [r1.length]; exact hz, k B2 _ s.sub ⟨m2.st.mutN m2.np m2.bp h1 noT_lst nc_lst, m2.np, m2.nq, m2.pq, m2.bp, m2.bq, ⟨_, upd_same, DpAll.append r1 (.cons ry .nil)⟩, ⟨a2, by rw [upd_ne m2.pq.symm]; exact h2, r2⟩⟩⟩
theorem Mk2.appQ {i : Nat} (m : Mk2 T K B H p q ds es B1 H1) (tk : TOk T H1) (hv : σ[i]? = some (some (.ref q))) (hz : es.length < sizeLine) (h : ED T K te σ B1 d)
    (k : ∀ B2 H2, Sub B1 B2 → Mk2 T K B H p q ds (es ++ [d]) B2 H2 → D.nx σ H2) : tDrop (tBM K "list" rAppend (tVar i) (tCons te tNil)) D σ H1 := by
  obtain ⟨acc, hp, r⟩ := m.aq
  refine ⟨.ref q, hv, .inl ⟨rfl, _, SqL.of hp⟩, h H1 m.st.fz tk _ fun y B2 H2 s ry => ?_⟩
  have m2 := m.step s
  obtain ⟨a1, h1, r1⟩ := m2.ap
  obtain ⟨a2, h2, r2⟩ := m2.aq
  exact ⟨q, a2, y, rfl, rfl, h2, by rw [r2.length]; exact hz, k B2 _ s.sub ⟨m2.st.mutN m2.nq m2.bq h2 noT_lst nc_lst, m2.np, m2.nq, m2.pq, m2.bp, m2.bq, ⟨a1, by rw [upd_ne m2.pq]; exact h1, r1⟩, ⟨_, upd_same, DpAll.append r2 (.cons ry .nil)⟩⟩⟩
/-- the second list laid beside the first -/
theorem Mk2.two {B0 H0 : Hp} {zs ws : List V} (s0 : St T B0 H0 B H) (n : H p = none) (r : DpAll K B zs ds) (s : St T B (upd H p (.lst zs)) B' H') (n2 : H' q = none) (r2 : DpAll K B' ws es) : Mk2 T K B0 H0 p q ds es B' (upd H' q (.lst ws)) := by
  have sp : St T B H B (upd H p (.lst zs)) := St.work s0.fz n
  have bp0 : B p = none := s0.fz.off n
  obtain ⟨bp, hp⟩ := s.keepL (o := .lst zs) noT_lst bp0 upd_same
  have sq := sp.trans s
  have pq : p ≠ q := fun z => by rw [z, n2] at hp; cases hp
  have s3 := s0.trans (sq.trans (St.work (o := .lst ws) s.fz n2))
  exact ⟨s3, Nn.old s0 (Nn.of n), Nn.old (s0.trans sq) (Nn.of n2), pq, bp, s.fz.off n2, ⟨zs, by rw [upd_ne pq]; exact hp, DpAll.sub s.sub _ _ r⟩, ⟨ws, upd_same, r2⟩⟩
theorem dp_blB {v : V} {b : Bool} (r : Dp K B v (.bool b)) : Dp K B' v (.bool b) := by
  cases r; exact .bl b
theorem ed_nself (l : leaf d = true) (h : ED T K ta σ B d) (h2 : ED T K tb σ B d) : ED T K (tOp rNe ta tb) σ B (.bool false) := ed_op h h2 fun B1 H1 v w Q f r1 r2 q => by
  cases r1 <;> cases r2 <;> first | exact ⟨rfl, by rw [decide_eq_true rfl]; exact q _ (.bl _)⟩ | cases l
theorem inV_bls (bs : List Bool) : inV (.bl true) (bs.map .bl) = bs.any id := by
  unfold inV
  rw [List.any_map]
  congr 1
  funext b
  cases b <;> rfl
theorem flat_bls (bs : List Bool) : (bs.map V.bl).all flatV = true := by
  rw [List.all_eq_true]; intro z hz; obtain ⟨s, _, rfl⟩ := List.mem_map.mp hz; rfl
theorem ed_inB {bs : List Bool} (h2 : ED T K tb σ B (.list (bs.map .bool))) : ED T K (tOp (rIn K false) (tC (.bl true)) tb) σ B (.bool (bs.any id)) :=
  ed_op (ed_bl true) h2 fun B1 H1 v w Q f r1 r2 q => by
    cases r1
    cases r2 with
    | @lst a zs _ hx t =>
      obtain rfl := DpAll.bls bs t
      refine ⟨a, _, rfl, .inl (sqL_sub (fz_sub f) hx), rfl, flat_bls bs, ?_⟩
      rw [if_neg (by decide), inV_bls]
      exact q _ (.bl _)
theorem ed_indexB {bs : List Bool} {i : Nat} {v : V} (hv : σ[i]? = some (some v)) (r : Dp K B v (.list (bs.map .bool))) (hb : bs.any id = true) : ED T K (tBM K "list" (rIndex K) (tVar i) (tCons (tC (.bl true)) tNil)) σ B (.int (bs.findIdx id)) := fun H f tk Q q => by
  cases r with
  | @lst a zs _ hx t =>
    obtain rfl := DpAll.bls bs t
    have hx' := sqL_sub (fz_sub f) hx
    have hlt : bs.findIdx id < bs.length := List.findIdx_lt_length_of_exists (List.any_eq_true.mp hb)
    refine ⟨.ref a, hv, .inl ⟨rfl, _, hx'⟩, a, _, .bl true, bs.findIdx id, .bl bs[bs.findIdx id], rfl, rfl, hx', rfl, flat_bls bs, ?_, ?_, fun m z hm hz => ?_, q _ B H (St.refl f) (.int _)⟩
    · rw [List.getElem?_map, List.getElem?_eq_getElem hlt]; rfl
    · have : bs[bs.findIdx id] = true := List.findIdx_getElem (w := hlt)
      rw [this]; rfl
    · have h1 : m < bs.length := Nat.lt_trans hm hlt
      rw [List.getElem?_map, List.getElem?_eq_getElem h1] at hz
      have hz := Option.some.inj hz
      have h2 : bs[m] = false := by
        have := List.not_of_lt_findIdx (p := id) hm
        simpa using this
      rw [← hz, h2]; rfl
end
def okL (ds : List PyData) : Prop := ∀ d ∈ ds, d.depth ≤ 3 ∧ d.canLay0 = true
theorem okL.app {ds es : List PyData} (h : okL ds) (h2 : okL es) : okL (ds ++ es) := fun d hd => (List.mem_append.mp hd).elim (h d) (h2 d)
theorem okL_bool (b : Bool) : okL [.bool b] := fun d hd => by rw [List.mem_singleton.mp hd]; exact ⟨by simp [PyData.depth], by simp [PyData.canLay0]⟩
theorem okL_bool2 (b b2 : Bool) : okL [.bool b, .bool b2] := (okL_bool b).app (okL_bool b2)
def grps : Kss := [[], ["ann"], ["b"], ["ann", "zoe"], ["ann", "b", "zoe"]]
def A_state (S : List Stt) (_ : List Ed) (ds : List PyData) (d : PyData) : Prop := (∃ ks : Ks, WKs ks ∧ (∀ s ∈ S, Gs ks s) ∧ S ≠ [] ∧ S.length ≤ 100) ∧ ds = [.list (S.map dSt)] ∧ d = .bool true
section
variable {P : Program} {w : World} {K : PySem.W.Frag} {mg : Str → Option Value} {base : Heap} {T : Tb}
theorem ok_law_state_right (c : Code K mg) (G_Watch_vault : FnOk P w K mg base CX0 1 c.Watch_vault.f c.Watch_vault.fd ["self"] (spX K c.C fun s => dV s.1)) (G_Watch_holders : FnOk P w K mg base CX0 1 c.Watch_holders.f c.Watch_holders.fd ["self"] (spX K c.C fun s => dT s.2)) (G_Watch_newly : FnOk P w K mg base CX0 4 c.Watch_newly.f c.Watch_newly.fd ["self"] (spW T K c.C A_newly)) (G_Watch_no_longer : FnOk P w K mg base CX0 4 c.Watch_no_longer.f c.Watch_no_longer.fd ["self"] (spW T K c.C A_no_longer)) (G_Watch_ever_vault : FnOk P w K mg base CX0 7 c.Watch_ever_vault.f c.Watch_ever_vault.fd ["self"] (spW T K c.C A_ever)) (G_Watch_always_vault : FnOk P w K mg base CX0 7 c.Watch_always_vault.f c.Watch_always_vault.fd ["self"] (spW T K c.C A_always)) (G_Watch_opened_by : FnOk P w K mg base CX0 4 c.Watch_opened_by.f c.Watch_opened_by.fd ["self", "people"] (spW T K c.C A_opened_by)) (G_Watch_first_open : FnOk P w K mg base CX0 4 c.Watch_first_open.f c.Watch_first_open.fd ["self", "held"] (spW T K c.C A_first_open)) (G_Watch_init : FnOk P w K mg base CX0 5 c.Watch_init.f c.Watch_init.fd ["self", "vault", "holders"] (spInit T K c.C)) (G_either : FnOk P w K mg base CX0 6 c.either.f c.either.fd ["vault", "other"] (spD T K A_either)) (G_both : FnOk P w K mg base CX0 6 c.both.f c.both.fd ["vault", "other"] (spD T K A_both)) (G_new_openers : FnOk P w K mg base CX0 6 c.new_openers.f c.new_openers.fd ["vault", "other"] (spD T K A_new_openers)) (G_lost_openers : FnOk P w K mg base CX0 7 c.lost_openers.f c.lost_openers.fd ["vault", "other"] (spD T K A_lost_openers)) (G_is_milder : FnOk P w K mg base CX0 8 c.is_milder.f c.is_milder.fd ["vault", "other"] (spD T K A_is_milder)) (G_are_met : FnOk P w K mg base CX0 7 c.are_met.f c.are_met.fd ["vault", "holders", "wanted", "unwanted"] (spD T K A_are_met)) (G_new_groups : FnOk P w K mg base CX0 8 c.new_groups.f c.new_groups.fd ["vault", "holders", "later"] (spD T K A_groups_that)) (G_lost_groups : FnOk P w K mg base CX0 8 c.lost_groups.f c.lost_groups.fd ["vault", "holders", "later"] (spD T K A_lost_groups)) (G_opens : FnOk P w K mg base CX0 3 c.opens.f c.opens.fd ["vault", "held"] (spD T K A_opens)) (G__law_lots : FnOk P w K mg base CX0 1 c._law_lots.f c._law_lots.fd ["_law_names_so"] (spD T K A_subsets)) (G__law_same : FnOk P w K mg base CX0 5 c._law_same.f c._law_same.fd ["_law_got", "_law_due"] (spD T K (A_same 4))) : FnOk P w K mg base CX0 9 c._law_state_right.f c._law_state_right.fd ["_law_eyes", "_law_states_so"] (spW T K c.C A_state) := by
  refine readW c._law_state_right.F sc__law_state_right (fun S E ds d h => ?_) (fun cdv A' outer s H B a S Es vs ds d E hr f tk wf r hA => ?_)
  · obtain ⟨_, rfl, _⟩ := h; rfl
  · obtain ⟨⟨ks, W, gs, hne, hlen⟩, rfl, rfl⟩ := hA
    obtain ⟨u, rfl, ru⟩ := dpAll1 r
    have hu := hr.u64
    have z3 : ∀ {n : Nat}, n ≤ 100 → n ≤ sizeLine := fun h => by rw [← big_line]; omega
    refine ⟨_, (pss_cons (ps_par (by rfl) sc__law_state_right.nd (i := 2) (j := 3) rfl rfl (by decide) rfl rfl (pa_cons (pe_ix (kIxL (K := K) rfl) (pv 1) pe_int (fun _ _ => rfl)) (pa_cons (pe_ix (kIxL (K := K) rfl) (pv 1) (pe_un un_neg pe_int) (fun _ _ => rfl)) pa_nil)) (by rfl)) (pss_cons (ps_par (by rfl) sc__law_state_right.nd (i := 4) (j := 5) rfl rfl (by decide) rfl rfl (pa_cons (pe_ix (kIxT (K := K) rfl) (pv 2) pe_int (fun _ _ => rfl)) (pa_cons (pe_ix (kIxT (K := K) rfl) (pv 2) pe_int (fun _ _ => rfl)) pa_nil)) (by rfl)) (pss_cons (ps_for PassesOwn.never rfl (kPiL (K := K) rfl (kSz (K := K) rfl (pe_slice (kSlL (K := K) rfl) (pv 1) (po_some pe_int) po_none))) (pg_name (i := 6) sc__law_state_right.nd rfl (Or.inl rfl)) (pss_one (ps_par (by rfl) sc__law_state_right.nd (i := 4) (j := 5) rfl rfl (by decide) rfl rfl (pa_cons (pe_call G_either (hr.mono (by decide)) (by rfl) c.either.g c.either.F.kp c.either.b .nil pass0 (pa_cons (pv 4) (pa_cons (pe_ix (kIxT (K := K) rfl) (pv 6) pe_int (fun _ _ => rfl)) pa_nil))) (pa_cons (pe_call G_both (hr.mono (by decide)) (by rfl) c.both.g c.both.F.kp c.both.b .nil pass0 (pa_cons (pv 5) (pa_cons (pe_ix (kIxT (K := K) rfl) (pv 6) pe_int (fun _ _ => rfl)) pa_nil))) pa_nil)) (by rfl)))) (pss_cons (ps_set (i := 7) sc__law_state_right.nd rfl (Or.inl rfl) (pe_lst (pa_cons (SlX.pe_propSl (E := E0) (pv 0) c.cl c.pr_vault.at_ c.pr_vault.get c.pr_vault.tk c.pr_vault.rc (fnr G_Watch_vault c.Watch_vault.b) (hr.mono (by decide)) (fun _ _ _ _ z => z)) (pa_cons (SlX.pe_propSl (E := E0) (pv 0) c.cl c.pr_holders.at_ c.pr_holders.get c.pr_holders.tk c.pr_holders.rc (fnr G_Watch_holders c.Watch_holders.b) (hr.mono (by decide)) (fun _ _ _ _ z => z)) (pa_cons (SlX.pe_methSl0 (E := E0) (pv 0) c.cl c.me_newly (fnr G_Watch_newly c.Watch_newly.b) (hr.mono (by decide)) pass0) (pa_cons (SlX.pe_methSl0 (E := E0) (pv 0) c.cl c.me_no_longer (fnr G_Watch_no_longer c.Watch_no_longer.b) (hr.mono (by decide)) pass0) (pa_cons (SlX.pe_methSl0 (E := E0) (pv 0) c.cl c.me_ever_vault (fnr G_Watch_ever_vault c.Watch_ever_vault.b) (hr.mono (by decide)) pass0) pa_nil))))))) (pss_cons (ps_set (i := 7) sc__law_state_right.nd rfl (Or.inl rfl) (pe_op (kCatL (K := K) rfl) (pv 7) (pe_lst (pa_cons (SlX.pe_methSl0 (E := E0) (pv 0) c.cl c.me_always_vault (fnr G_Watch_always_vault c.Watch_always_vault.b) (hr.mono (by decide)) pass0) pa_nil)))) (pss_cons (ps_set (i := 8) sc__law_state_right.nd rfl (Or.inl rfl) (pe_lst (pa_cons (pe_ix (kIxT (K := K) rfl) (pv 3) pe_int (fun _ _ => rfl)) (pa_cons (pe_ix (kIxT (K := K) rfl) (pv 3) pe_int (fun _ _ => rfl)) (pa_cons (pe_call G_new_openers (hr.mono (by decide)) (by rfl) c.new_openers.g c.new_openers.F.kp c.new_openers.b .nil pass0 (pa_cons (pe_ix (kIxT (K := K) rfl) (pv 2) pe_int (fun _ _ => rfl)) (pa_cons (pe_ix (kIxT (K := K) rfl) (pv 3) pe_int (fun _ _ => rfl)) pa_nil))) pa_nil))))) (pss_cons (ps_set (i := 8) sc__law_state_right.nd rfl (Or.inl rfl) (pe_op (kCatL (K := K) rfl) (pv 8) (pe_lst (pa_cons (pe_call G_lost_openers (hr.mono (by decide)) (by rfl) c.lost_openers.g c.lost_openers.F.kp c.lost_openers.b .nil pass0 (pa_cons (pe_ix (kIxT (K := K) rfl) (pv 2) pe_int (fun _ _ => rfl)) (pa_cons (pe_ix (kIxT (K := K) rfl) (pv 3) pe_int (fun _ _ => rfl)) pa_nil))) pa_nil)))) (pss_cons (ps_set (i := 8) sc__law_state_right.nd rfl (Or.inl rfl) (pe_op (kCatL (K := K) rfl) (pv 8) (pe_lst (pa_cons (pv 4) (pa_cons (pv 5) pa_nil))))) (pss_cons (ps_for PassesOwn.never rfl (kPiL (K := K) rfl (kSz (K := K) rfl (pv 1))) (pg_name (i := 6) sc__law_state_right.nd rfl (Or.inl rfl)) (pss_cons (ps_set (i := 7) sc__law_state_right.nd rfl (Or.inl rfl) (pe_op (kCatL (K := K) rfl) (pv 7) (pe_lst (pa_cons (pe_call G_is_milder (hr.mono (by decide)) (by rfl) c.is_milder.g c.is_milder.F.kp c.is_milder.b .nil pass0 (pa_cons (SlX.pe_methSl0 (E := E0) (pv 0) c.cl c.me_always_vault (fnr G_Watch_always_vault c.Watch_always_vault.b) (hr.mono (by decide)) pass0) (pa_cons (pe_ix (kIxT (K := K) rfl) (pv 6) pe_int (fun _ _ => rfl)) pa_nil))) (pa_cons (pe_call G_is_milder (hr.mono (by decide)) (by rfl) c.is_milder.g c.is_milder.F.kp c.is_milder.b .nil pass0 (pa_cons (pe_ix (kIxT (K := K) rfl) (pv 6) pe_int (fun _ _ => rfl)) (pa_cons (SlX.pe_methSl0 (E := E0) (pv 0) c.cl c.me_ever_vault (fnr G_Watch_ever_vault c.Watch_ever_vault.b) (hr.mono (by decide)) pass0) pa_nil))) pa_nil))))) (pss_one (ps_set (i := 8) sc__law_state_right.nd rfl (Or.inl rfl) (pe_op (kCatL (K := K) rfl) (pv 8) (pe_lst (pa_cons pe_bl (pa_cons pe_bl pa_nil)))))))) (pss_cons (ps_expr (pe_bm PySem.F.plainAttrs_list PySem.F.slot_list_append PySem.F.type_list_append mt_append (pv 7) (pa_cons (pe_cmpR op_eq (pe_call G_is_milder (hr.mono (by decide)) (by rfl) c.is_milder.g c.is_milder.F.kp c.is_milder.b .nil pass0 (pa_cons (SlX.pe_propSl (E := E0) (pv 0) c.cl c.pr_vault.at_ c.pr_vault.get c.pr_vault.tk c.pr_vault.rc (fnr G_Watch_vault c.Watch_vault.b) (hr.mono (by decide)) (fun _ _ _ _ z => z)) (pa_cons (pe_ix (kIxT (K := K) rfl) (pv 2) pe_int (fun _ _ => rfl)) pa_nil))) (pe_cmpR (kEqD (K := K) rfl hu) (SlX.pe_methSl0 (E := E0) (pv 0) c.cl c.me_newly (fnr G_Watch_newly c.Watch_newly.b) (hr.mono (by decide)) pass0) (pe_tup pa_nil) (nomark _)) (nomark _)) pa_nil))) (pss_cons (ps_expr (pe_bm PySem.F.plainAttrs_list PySem.F.slot_list_append PySem.F.type_list_append mt_append (pv 8) (pa_cons pe_bl pa_nil))) (pss_cons (ps_for PassesOwn.never rfl (kPiT (K := K) rfl (kSz (K := K) rfl (pe_tup (pa_cons (pe_tup pa_nil) (pa_cons (pe_tup (pa_cons pe_str pa_nil)) (pa_cons (pe_tup (pa_cons pe_str pa_nil)) (pa_cons (pe_tup (pa_cons pe_str (pa_cons pe_str pa_nil))) (pa_cons (pe_tup (pa_cons pe_str (pa_cons pe_str (pa_cons pe_str pa_nil)))) pa_nil)))))))) (pg_name (i := 9) sc__law_state_right.nd rfl (Or.inl rfl)) (pss_cons (ps_expr (pe_bm PySem.F.plainAttrs_list PySem.F.slot_list_append PySem.F.type_list_append mt_append (pv 7) (pa_cons (SlX.pe_methSl (E := E0) (pv 0) c.cl c.me_opened_by (fnr G_Watch_opened_by c.Watch_opened_by.b) (hr.mono (by decide)) pass0 (pa_cons (pv 9) pa_nil)) pa_nil))) (pss_one (ps_expr (pe_bm PySem.F.plainAttrs_list PySem.F.slot_list_append PySem.F.type_list_append mt_append (pv 8) (pa_cons (pe_call G_are_met (hr.mono (by decide)) (by rfl) c.are_met.g c.are_met.F.kp c.are_met.b .nil pass0 (pa_cons (pe_ix (kIxT (K := K) rfl) (pv 3) pe_int (fun _ _ => rfl)) (pa_cons (pe_ix (kIxT (K := K) rfl) (pv 3) pe_int (fun _ _ => rfl)) (pa_cons (pe_tup (pa_cons (pv 9) pa_nil)) (pa_cons (pe_tup pa_nil) pa_nil))))) pa_nil)))))) (pss_cons (ps_if (pt_not (pt_val (pe_call G__law_same (hr.mono (by decide)) (by rfl) c._law_same.g c._law_same.F.kp c._law_same.b .nil pass0 (pa_cons (pv 7) (pa_cons (pv 8) pa_nil))))) (pss_one (ps_ret pe_bl)) pss_nil) (pss_cons (ps_set (i := 10) sc__law_state_right.nd rfl (Or.inl rfl) (pe_make (E := E0) c.mkW G_Watch_init (hr.mono (by decide)) (by rfl) c.gC c.Watch_init.b .nil pass0 (pa_cons (pe_ix (kIxT (K := K) rfl) (pv 3) pe_int (fun _ _ => rfl)) (pa_cons (pe_ix (kIxT (K := K) rfl) (pv 2) pe_int (fun _ _ => rfl)) pa_nil)))) (pss_cons (ps_for PassesOwn.never rfl (kPiT (K := K) rfl (kSz (K := K) rfl (pe_call G_new_groups (hr.mono (by decide)) (by rfl) c.new_groups.g c.new_groups.F.kp c.new_groups.b .nil pass0 (pa_cons (pe_ix (kIxT (K := K) rfl) (pv 3) pe_int (fun _ _ => rfl)) (pa_cons (pe_ix (kIxT (K := K) rfl) (pv 2) pe_int (fun _ _ => rfl)) (pa_cons (pe_ix (kIxT (K := K) rfl) (pv 3) pe_int (fun _ _ => rfl)) pa_nil)))))) (pg_name (i := 9) sc__law_state_right.nd rfl (Or.inl rfl)) (pss_one (ps_if (PW.pt (pw_or (pt_not (pt_val (SlX.pe_methSl (E := E0) (pv 0) c.cl c.me_opened_by (fnr G_Watch_opened_by c.Watch_opened_by.b) (hr.mono (by decide)) pass0 (pa_cons (pv 9) pa_nil)))) (pw_or1 (pt_val (SlX.pe_methSl (E := E0) (pv 10) c.cl c.me_opened_by (fnr G_Watch_opened_by c.Watch_opened_by.b) (hr.mono (by decide)) pass0 (pa_cons (pv 9) pa_nil)))))) (pss_one (ps_ret pe_bl)) pss_nil))) (pss_cons (ps_for PassesOwn.never rfl (kPiT (K := K) rfl (kSz (K := K) rfl (pe_call G_lost_groups (hr.mono (by decide)) (by rfl) c.lost_groups.g c.lost_groups.F.kp c.lost_groups.b .nil pass0 (pa_cons (pe_ix (kIxT (K := K) rfl) (pv 3) pe_int (fun _ _ => rfl)) (pa_cons (pe_ix (kIxT (K := K) rfl) (pv 2) pe_int (fun _ _ => rfl)) (pa_cons (pe_ix (kIxT (K := K) rfl) (pv 3) pe_int (fun _ _ => rfl)) pa_nil)))))) (pg_name (i := 9) sc__law_state_right.nd rfl (Or.inl rfl)) (pss_one (ps_if (PW.pt (pw_or (pt_val (SlX.pe_methSl (E := E0) (pv 0) c.cl c.me_opened_by (fnr G_Watch_opened_by c.Watch_opened_by.b) (hr.mono (by decide)) pass0 (pa_cons (pv 9) pa_nil))) (pw_or1 (pt_not (pt_val (SlX.pe_methSl (E := E0) (pv 10) c.cl c.me_opened_by (fnr G_Watch_opened_by c.Watch_opened_by.b) (hr.mono (by decide)) pass0 (pa_cons (pv 9) pa_nil))))))) (pss_one (ps_ret pe_bl)) pss_nil))) (pss_cons (ps_for PassesOwn.never rfl (kPiL (K := K) rfl (kSz (K := K) rfl (pe_call G__law_lots (hr.mono (by decide)) (by rfl) c._law_lots.g c._law_lots.F.kp c._law_lots.b .nil pass0 (pa_cons (pe_ix (kIxT (K := K) rfl) (pe_ix (kIxT (K := K) rfl) (pv 2) pe_int (fun _ _ => rfl)) pe_int (fun _ _ => rfl)) pa_nil)))) (pg_name (i := 11) sc__law_state_right.nd rfl (Or.inr rfl)) (pss_cons (ps_setLc (i := 12) (own := [("_law_own", 6)]) (g := gName 6) (tt := tYes) rfl sc__law_state_right.nd rfl rfl (sw_true rfl rfl rfl (by decide +kernel)) (kPiL (K := K) rfl (kSz (K := K) rfl (pv 1))) (blkOk_by (N := ["_law_eyes", "_law_states_so", "_law_first_so", "_law_last_so", "_law_ever_so", "_law_always_so", "_law_own", "_law_got", "_law_due", "_law_group_so", "_law_mate_so", "_law_held_so", "_law_told"]) (sc := defScope s__law_state_right) (by decide +kernel)) (fun _ _ _ _ _ => pg_name (i := 6) sc__law_state_right.nd rfl (Or.inl rfl)) (fun _ _ _ _ _ => pts_nil) (fun _ _ _ _ _ => (pe_call G_opens (hr.mono (by decide)) (by rfl) c.gOV c.opens.F.kp c.opens.b .nil pass0 (pa_cons (pe_ix (kIxT (K := K) rfl) (pv 6) pe_int (fun _ _ => rfl)) (pa_cons (pv 11) pa_nil))))) (pss_one (ps_if (pt_cmpR op_ne (SlX.pe_methSl (E := E0) (pv 0) c.cl c.me_first_open (fnr G_Watch_first_open c.Watch_first_open.b) (hr.mono (by decide)) pass0 (pa_cons (pv 11) pa_nil)) (pe_ifExp (pt_cmpR (kIn (K := K) rfl) pe_bl (pv 12) (by rfl)) (pe_bm PySem.F.plainAttrs_list PySem.F.slot_list_index PySem.F.type_list_index mt_index (pv 12) (pa_cons pe_bl pa_nil)) pe_non) (nomark _)) (pss_one (ps_ret pe_bl)) pss_nil)))) (pss_one (ps_ret pe_bl))))))))))))))))))), fun Q q => ?_⟩
    obtain ⟨s0, S', rfl⟩ := List.exists_cons_of_ne_nil hne
    obtain ⟨sl, hlast⟩ : ∃ sl, (s0 :: S').getLast? = some sl := ⟨_, List.getLast?_eq_some_getLast (by simp)⟩
    have ms0 : s0 ∈ s0 :: S' := List.mem_cons_self
    have msl : sl ∈ s0 :: S' := List.mem_of_getLast? hlast
    have g0 := gs s0 ms0
    have gl := gs sl msl
    have sok : SOk ks (s0 :: S') := sOk_of W gs
    have nv : ∀ s ∈ s0 :: S', Nv ks s.1 := fun s hs => (gs s hs).v
    have nmks : ∀ s ∈ s0 :: S', Nms s.1.1 := fun s hs => (nv s hs).k.symm ▸ W.nm
    have kk : ∀ s ∈ s0 :: S', ∀ t ∈ s0 :: S', t.1.1 = s.1.1 := fun s hs t ht => (nv t ht).k.trans (nv s hs).k.symm
    have inn : ∀ s ∈ s0 :: S', ∀ t ∈ s0 :: S', InK s.1.1 t.1.2 := fun s hs t ht => (nv s hs).k.symm ▸ (nv t ht).i
    have nvE : Nv ks (ever s0.1 S') := ever_nv W S' _ g0.v fun s hs => nv s (List.mem_cons_of_mem _ hs)
    have nvA : Nv ks (alws s0.1 S') := alws_nv W S' _ g0.v fun s hs => nv s (List.mem_cons_of_mem _ hs)
    refine sd_par (K := K) (d := dSt s0) (e := dSt sl) f tk (eda_cons (ed_ixL (ed_var rfl ru) (ed_int 0) (at0 _ _)) (eda_cons (ed_ixL (ed_var rfl ru) (ed_negI 1) (atLast (by rw [List.getLast?_map, hlast]; rfl))) eda_nil)) fun vf vl B1 H1 s1 rf rl => ?_
    refine sd_par (K := K) (d := dV s0.1) (e := dV s0.1) s1.fz (s1.ok tk) (eda_cons (ed_ixT (d := dV s0.1) (ed_var rfl rf) (ed_int 0) rfl) (eda_cons (ed_ixT (d := dV s0.1) (ed_var rfl rf) (ed_int 0) rfl) eda_nil)) fun ve va B2 H2 s2 re ra => ?_
    have s12 := s1.trans s2
    refine sd_forL (enc := dSt) (xs := S') s12.fz (s12.ok tk) ((ed_slL (lo := some 1) (hi := none) (ed_var rfl (Dp.sub s12.sub _ _ ru)) (fun H Q => part_int 1 H Q) (fun H Q => part_no H Q)).is (by
      rw [show (some (1 : Int)) = some ((1 : Nat) : Int) from rfl, cutD_drop]; rfl)) fun B3 H3 s3 => ?_
    have s13 := s12.trans s3
    refine ⟨fun i σ' H' => ∃ (ve va : V) (o6 : Option V) (B' : Hp), σ' = [some (.ref a.x), some u, some vf, some vl, some ve, some va, o6, none, none, none, none, none, none] ∧ St T B H B' H' ∧ Sub B3 B' ∧ Dp K B' ve (dV (ever s0.1 (S'.take i))) ∧ Dp K B' va (dV (alws s0.1 (S'.take i))), ?_, ?_, ?_, ?_⟩
    · exact ⟨ve, va, none, B3, rfl, s13, Sub.refl _, Dp.sub s3.sub _ _ re, Dp.sub s3.sub _ _ ra⟩
    · rintro i σ' H' ⟨_, _, _, B', _, s, sb, _⟩
      exact s.fz.sub sb
    · rintro i x v1 σ' H' hx rx ⟨ve, va, o6, B', rfl, s, sb, re, ra⟩
      have hxm : x ∈ S' := List.mem_of_getElem? hx
      have hsv := nv x (List.mem_cons_of_mem _ hxm)
      have et : S'.take (i + 1) = S'.take i ++ [x] := by rw [List.take_succ, hx]; rfl
      have hfe : Nv ks (ever s0.1 (S'.take i)) := ever_nv W _ _ g0.v fun t ht => nv t (List.mem_cons_of_mem _ (List.mem_of_mem_take ht))
      have hfa : Nv ks (alws s0.1 (S'.take i)) := alws_nv W _ _ g0.v fun t ht => nv t (List.mem_cons_of_mem _ (List.mem_of_mem_take ht))
      have e1 : ever s0.1 (S'.take (i + 1)) = eithr (ever s0.1 (S'.take i)) x.1 := by unfold ever; rw [et, List.foldl_append]; rfl
      have e2 : alws s0.1 (S'.take (i + 1)) = bth (alws s0.1 (S'.take i)) x.1 := by unfold alws; rw [et, List.foldl_append]; rfl
      have rx' := Dp.sub sb _ _ rx
      refine sd_par (K := K) (d := dV (eithr (ever s0.1 (S'.take i)) x.1)) (e := dV (bth (alws s0.1 (S'.take i)) x.1)) s.fz (s.ok tk) (eda_cons (ed_call (eda_cons (ed_var rfl re) (eda_cons (ed_ixT (d := dV x.1) (ed_var rfl rx') (ed_int 0) rfl) eda_nil)) ⟨_, x.1, hsv.k.trans hfe.k.symm, hfe.k.symm ▸ W, hfe.k.symm ▸ hfe.i, hfe.k.symm ▸ hsv.i, Nat.le_trans hfe.ok.n (by decide), Nat.le_trans hsv.ok.n (by decide), rfl, rfl⟩)
        (eda_cons (ed_call (eda_cons (ed_var rfl ra) (eda_cons (ed_ixT (d := dV x.1) (ed_var rfl rx') (ed_int 0) rfl) eda_nil)) ⟨_, x.1, hsv.k.trans hfa.k.symm, hfa.k.symm ▸ W, hfa.k.symm ▸ hfa.i, hfa.k.symm ▸ hsv.i, Nat.le_trans hfa.ok.n (by decide), Nat.le_trans hsv.ok.n (by decide), fun l hl => Nat.le_trans ((List.mem_append.mp hl).elim (hfa.ok.el l) (hsv.ok.el l)) (by decide), rfl, rfl⟩) eda_nil)) fun vn wn B4 H4 s4 r4 r5 => ?_
      exact ⟨vn, wn, _, B4, rfl, s.trans s4, sb.trans s4.sub, by rw [e1]; exact r4, by rw [e2]; exact r5⟩
    rintro σ' H4 ⟨ve, va, o6, B4, rfl, s4, sb4, re, ra⟩
    rw [List.take_length] at re ra
    have rf4 := Dp.sub ((s2.sub.trans s3.sub).trans sb4) _ _ rf
    have rl4 := Dp.sub ((s2.sub.trans s3.sub).trans sb4) _ _ rl
    have wf4 := wf.sub s4.sub
    have tk4 := s4.ok tk
    have a_alw : A_always (s0 :: S') Es [] (dV (alws s0.1 S')) := ⟨ks, s0, S', sok, rfl, rfl, rfl⟩
    have a_evr : A_ever (s0 :: S') Es [] (dV (ever s0.1 S')) := ⟨ks, s0, S', sok, rfl, rfl, rfl⟩
    have a_new : A_newly (s0 :: S') Es [] (dTT (newO s0.1 sl.1)) := ⟨s0, sl, S', rfl, hlast, inn s0 ms0 sl msl, rfl, rfl⟩
    have a_nol : A_no_longer (s0 :: S') Es [] (dTT (newO sl.1 s0.1)) := ⟨s0, sl, S', rfl, hlast, inn sl msl s0 ms0, rfl, rfl⟩
    refine sd_asg (K := K) (d := .list [dV sl.1, dT sl.2, dTT (newO s0.1 sl.1), dTT (newO sl.1 s0.1), dV (ever s0.1 S')]) s4.fz tk4 (ed_lst (eda_cons (ed_last (g := fun s => dV s.1) wf4 rfl hlast) (eda_cons (ed_last (g := fun s => dT s.2) wf4 rfl hlast) (eda_cons (ed_meth wf4 rfl eda_nil a_new) (eda_cons (ed_meth wf4 rfl eda_nil a_nol) (eda_cons (ed_meth wf4 rfl eda_nil a_evr) eda_nil))))) (z3 (by show 5 ≤ 100; decide))) fun vg B5 H5 s5 rg => ?_
    have s05 := s4.trans s5
    refine sd_mkcat (K := K) s05.fz (s05.ok tk) (ed_var rfl rg) (ed_lst (eda_cons (ed_meth (wf.sub s05.sub) rfl eda_nil a_alw) eda_nil) len1) (z3 (by show 6 ≤ 100; decide)) fun p B6 H6 zs s6 n6 r6 => ?_
    have s06 := s05.trans s6
    have sp6 : St T B6 H6 B6 (upd H6 p (.lst zs)) := St.work s06.fz n6
    have s06' := s06.trans sp6
    have up6 : ∀ {v : V} {d : PyData}, Dp K B4 v d → Dp K B6 v d := fun {v d} r => Dp.sub (s5.sub.trans s6.sub) _ _ r
    refine sd_asg (K := K) (d := .list [dV sl.1, dT sl.2, dTT (newO s0.1 sl.1)]) s06'.fz (s06'.ok tk) (ed_lst (eda_cons (ed_ixT (d := dV sl.1) (ed_var rfl (up6 rl4)) (ed_int 0) rfl) (eda_cons (ed_ixT (d := dT sl.2) (ed_var rfl (up6 rl4)) (ed_int 1) rfl) (eda_cons (ed_call (eda_cons (ed_ixT (d := dV s0.1) (ed_var rfl (up6 rf4)) (ed_int 0) rfl) (eda_cons (ed_ixT (d := dV sl.1) (ed_var rfl (up6 rl4)) (ed_int 0) rfl) eda_nil)) ⟨s0.1, sl.1, kk s0 ms0 sl msl, nmks s0 ms0, rfl, rfl⟩) eda_nil))) (z3 (by show 3 ≤ 100; decide))) fun vd B7 H7 s7 rd => ?_
    refine sd_asg (K := K) s7.fz (s7.ok (s06'.ok tk)) (ed_catL (ed_var rfl rd) (ed_lst (eda_cons (ed_call (d := dTT (newO sl.1 s0.1)) (eda_cons (ed_ixT (d := dV s0.1) (ed_var rfl (Dp.sub s7.sub _ _ (up6 rf4))) (ed_int 0) rfl) (eda_cons (ed_ixT (d := dV sl.1) (ed_var rfl (Dp.sub s7.sub _ _ (up6 rl4))) (ed_int 0) rfl) eda_nil)) ⟨s0.1, sl.1, kk s0 ms0 sl msl, nmks s0 ms0, rfl, rfl⟩) eda_nil) len1) (z3 (by show 4 ≤ 100; decide))) fun vd2 B8 H8 s8 rd2 => ?_
    have s78 := s7.trans s8
    refine sd_mkcat (K := K) s78.fz (s78.ok (s06'.ok tk)) (ed_var rfl rd2) (ed_lst (eda_cons (ed_var rfl (Dp.sub s78.sub _ _ (up6 re))) (eda_cons (ed_var rfl (Dp.sub s78.sub _ _ (up6 ra))) eda_nil)) (z3 (by show 2 ≤ 100; decide))) (z3 (by show 6 ≤ 100; decide)) fun qa B9 H9 ws s9 n9 r9 => ?_
    have m9 := Mk2.two s06 n6 r6 (s78.trans s9) n9 r9
    have okl0 : okL [dV sl.1, dT sl.2, dTT (newO s0.1 sl.1), dTT (newO sl.1 s0.1), dV (ever s0.1 S'), dV (alws s0.1 S')] := by
      intro d hd
      rcases List.mem_cons.mp hd with rfl | hd
      · exact ⟨dep_dV _, gl.v.lay W⟩
      rcases List.mem_cons.mp hd with rfl | hd
      · exact ⟨by rw [dep_dT]; decide, gl.h.lay⟩
      rcases List.mem_cons.mp hd with rfl | hd
      · exact ⟨Nat.le_trans (dep_dTT _) (by decide), lay_dTT fun k hk => gl.v.ok.nm k (newO_sub hk)⟩
      rcases List.mem_cons.mp hd with rfl | hd
      · exact ⟨Nat.le_trans (dep_dTT _) (by decide), lay_dTT fun k hk => g0.v.ok.nm k (newO_sub hk)⟩
      rcases List.mem_cons.mp hd with rfl | hd
      · exact ⟨dep_dV _, nvE.lay W⟩
      · rw [List.mem_singleton.mp hd]; exact ⟨dep_dV _, nvA.lay W⟩
    have sub49 : Sub B4 B9 := (s5.sub.trans s6.sub).trans (s78.sub.trans s9.sub)
    refine sd_forL (enc := dSt) (xs := s0 :: S') m9.st.fz (m9.st.ok tk) (ed_var rfl (Dp.sub m9.st.sub _ _ ru)) fun B10 H10 s10 => ?_
    have m10 := m9.step s10
    refine ⟨fun i σ' H' => ∃ (o6 : Option V) (Bs Hs B' : Hp) (p qa : Addr) (ds : List PyData), σ' = [some (.ref a.x), some u, some vf, some vl, some ve, some va, o6, some (.ref p), some (.ref qa), none, none, none, none] ∧ St T B H Bs Hs ∧ Sub B10 B' ∧ okL ds ∧ ds.length ≤ 6 + 2 * i ∧ Mk2 T K Bs Hs p qa ds ds B' H', ?_, ?_, ?_, ?_⟩
    · exact ⟨o6, B, H, B10, p, qa, _, rfl, St.refl f, Sub.refl _, okl0, by show 6 ≤ 6; decide, m10⟩
    · rintro i σ' H' ⟨_, _, _, B', _, _, _, _, _, sb, _, _, m⟩
      exact m.st.fz.sub sb
    · rintro i x v1 σ' H' hx rx ⟨o6, Bs, Hs, B', p, qa, ds, rfl, ss, sb, okl, hl, m⟩
      have hxm : x ∈ s0 :: S' := List.mem_of_getElem? hx
      have hi : i < (s0 :: S').length := (List.getElem?_eq_some_iff.mp hx).1
      obtain ⟨Bd, sd, sbd, rp, rq⟩ := m.done
      have s1 := ss.trans sd
      have hsv := nv x hxm
      have rx1 := Dp.sub (sb.trans sbd) _ _ rx
      have am : ∀ {B2 : Hp}, Sub Bd B2 → Wf K c.C B2 a (s0 :: S') Es := fun h => wf.sub (s1.sub.trans h)
      refine sd_mkcat (K := K) s1.fz (s1.ok tk) (ed_var rfl rp) (ed_lst (eda_cons ((ed_call (eda_cons (ed_meth (am (Sub.refl _)) rfl eda_nil a_alw) (eda_cons (ed_ixT (d := dV x.1) (ed_var rfl rx1) (ed_int 0) rfl) eda_nil)) ⟨alws s0.1 S', x.1, hsv.k.trans nvA.k.symm, nvA.k.symm ▸ W.nm, rfl, rfl⟩).is (e := .bool true) (by rw [always_milder hxm]; rfl)) (eda_cons ((ed_call (eda_cons (ed_ixT (d := dV x.1) (ed_var rfl rx1) (ed_int 0) rfl) (eda_cons (ed_meth (am (Sub.refl _)) rfl eda_nil a_evr) eda_nil)) ⟨x.1, ever s0.1 S', nvE.k.trans hsv.k.symm, nmks x hxm, rfl, rfl⟩).is (e := .bool true) (by rw [ever_milder hxm]; rfl)) eda_nil)) (z3 (by show 2 ≤ 100; decide))) (by rw [← big_line]; show ds.length + 2 ≤ _; omega) fun p2 B2 H2 zs2 s2 n2 r2 => ?_
      have s12 := s1.trans s2
      have sp2 : St T B2 H2 B2 (upd H2 p2 (.lst zs2)) := St.work s12.fz n2
      refine sd_mkcat (K := K) (s12.trans sp2).fz ((s12.trans sp2).ok tk) (ed_var rfl (Dp.sub s2.sub _ _ rq)) (ed_lst (eda_cons (ed_bl true) (eda_cons (ed_bl true) eda_nil)) (z3 (by show 2 ≤ 100; decide))) (by rw [← big_line]; show ds.length + 2 ≤ _; omega) fun q2 B3 H3 ws3 s3 n3 r3 => ?_
      exact ⟨_, B, H, B3, p2, q2, _, rfl, St.refl f, ((sb.trans sbd).trans s2.sub).trans s3.sub, okl.app (okL_bool2 true true), by rw [List.length_append]; show ds.length + 2 ≤ _; omega, Mk2.two s12 n2 r2 s3 n3 r3⟩
    rintro σ' H11 ⟨o6, Bs, Hs, B11, p, qa, ds, rfl, ss, sb11, okl, hl, m⟩
    have hl : ds.length ≤ 300 := by omega
    have sub4 : Sub B4 B11 := (sub49.trans s10.sub).trans sb11
    have sub11 : Sub B B11 := s4.sub.trans sub4
    have s11 := ss.trans m.st
    have rf11 := Dp.sub sub4 _ _ rf4
    have rl11 := Dp.sub sub4 _ _ rl4
    have shN : SeqAt.shaped (dTT (newO s0.1 sl.1)) = true := shaped_dTT fun k hk => gl.v.ok.nm k (newO_sub hk)
    refine m.appP (K := K) (d := .bool true) (s11.ok tk) rfl (by rw [← big_line]; omega) ((ed_eqB (ed_call (eda_cons (ed_last (g := fun s => dV s.1) (wf.sub s11.sub) rfl hlast) (eda_cons (ed_ixT (d := dV s0.1) (ed_var rfl rf11) (ed_int 0) rfl) eda_nil)) ⟨sl.1, s0.1, kk sl msl s0 ms0, nmks sl msl, rfl, rfl⟩) ((ed_eqD (K := K) (ed_meth (wf.sub s11.sub) rfl eda_nil a_new) (ed_tup (eda_nil (K := K)) (Nat.zero_le _)) shN rfl).is (congrArg PyData.bool (eqv_dTT _ [])))).is ?_) fun B12 H12 sb12 m12 => ?_
    · have : decide ((newO s0.1 sl.1).length = 0) = decide (newO s0.1 sl.1 = []) := by rw [decide_eq_decide]; exact List.length_eq_zero_iff
      rw [this]; simp
    refine m12.appQ (K := K) (d := .bool true) ((ss.trans m12.st).ok tk) rfl (by rw [← big_line]; omega) (ed_bl true) fun B13 H13 sb13 m13 => ?_
    refine sd_forT (enc := dT) (xs := grps) m13.st.fz ((ss.trans m13.st).ok tk) ((ed_tup (eda_cons (ed_tup (eda_nil (K := K)) (Nat.zero_le _)) (eda_cons (ed_tup (eda_cons (ed_str "ann") eda_nil) len1) (eda_cons (ed_tup (eda_cons (ed_str "b") eda_nil) len1) (eda_cons (ed_tup (eda_cons (ed_str "ann") (eda_cons (ed_str "zoe") eda_nil)) (z3 (by decide))) (eda_cons (ed_tup (eda_cons (ed_str "ann") (eda_cons (ed_str "b") (eda_cons (ed_str "zoe") eda_nil))) (z3 (by decide))) eda_nil))))) (z3 (by decide))).is (by rfl)) fun B14 H14 s14 => ?_
    have m14 := m13.step s14
    have okl1 : okL (ds ++ [.bool true]) := okl.app (okL_bool true)
    refine ⟨fun i σ' H' => ∃ (o9 : Option V) (B' : Hp) (ds : List PyData), σ' = [some (.ref a.x), some u, some vf, some vl, some ve, some va, o6, some (.ref p), some (.ref qa), o9, none, none, none] ∧ Sub B14 B' ∧ okL ds ∧ ds.length ≤ 301 + i ∧ Mk2 T K Bs Hs p qa ds ds B' H', ?_, ?_, ?_, ?_⟩
    · exact ⟨none, B14, _, rfl, Sub.refl _, okl1, by rw [List.length_append]; show ds.length + 1 ≤ _; omega, m14⟩
    · rintro i σ' H' ⟨_, B', _, _, sb, _, _, m⟩
      exact m.st.fz.sub sb
    · rintro i g v1 σ' H' hx rx ⟨o9, B', ds, rfl, sb, okl, hl, m⟩
      have hi : i < grps.length := (List.getElem?_eq_some_iff.mp hx).1
      have hi : i < 5 := hi
      have subL : Sub B4 B' := (((sub4.trans sb12).trans sb13).trans s14.sub).trans sb
      refine m.appP (K := K) (d := .bool (gop sl.1 sl.2 g)) ((ss.trans m.st).ok tk) rfl (by rw [← big_line]; omega) (ed_meth (wf.sub (ss.trans m.st).sub) rfl (eda_cons (ed_var rfl (Dp.sub sb _ _ rx)) eda_nil) ⟨sl, g, hlast, rfl, rfl⟩) fun B2 H2 sb2 m2 => ?_
      refine m2.appQ (K := K) (d := .bool (gop sl.1 sl.2 g)) ((ss.trans m2.st).ok tk) rfl (by rw [← big_line]; omega) (ed_call (eda_cons (ed_ixT (d := dV sl.1) (ed_var rfl (Dp.sub (subL.trans sb2) _ _ rl4)) (ed_int 0) rfl) (eda_cons (ed_ixT (d := dT sl.2) (ed_var rfl (Dp.sub (subL.trans sb2) _ _ rl4)) (ed_int 1) rfl) (eda_cons (ed_tup (eda_cons (ed_var rfl (Dp.sub (sb.trans sb2) _ _ rx)) eda_nil) len1) (eda_cons (ed_tup (eda_nil (K := K)) (Nat.zero_le _)) eda_nil)))) ⟨sl.1, sl.2, g, rfl, rfl⟩) fun B3 H3 sb3 m3 => ?_
      exact ⟨_, B3, _, rfl, (sb.trans sb2).trans sb3, okl.app (okL_bool _), by rw [List.length_append]; show ds.length + 1 ≤ _; omega, m3⟩
    rintro σ' H15 ⟨o9, B15, ds, rfl, sb15, okl, hl, m⟩
    obtain ⟨B16, s16, sb16, rp, rq⟩ := m.done
    have s016 := ss.trans s16
    have sub416 : Sub B4 B16 := (((((sub4.trans sb12).trans sb13).trans s14.sub).trans sb15)).trans sb16
    refine sd_if (b := false) s016.fz (s016.ok tk) (et_not (a := true) (et_B (ed_call (d := .bool true) (eda_cons (ed_var rfl rp) (eda_cons (ed_var rfl rq) eda_nil)) ⟨.list ds, by rw [dep_list]; exact Nat.succ_le_succ (depAll_le fun d hd => (okl d hd).1), by rw [PyData.canLay0]; exact lay_all fun d hd => (okl d hd).2, rfl, rfl⟩))) (fun z => by cases z) fun _ H17 s17 => ?_
    have s017 := s016.trans s17
    refine sd_make (C := c.C) (vt := sl.1) (hs := s0.2) s017.fz (s017.ok tk) (eda_cons (ed_ixT (d := dV sl.1) (ed_var rfl (Dp.sub sub416 _ _ rl4)) (ed_int 0) rfl) (eda_cons (ed_ixT (d := dT s0.2) (ed_var rfl (Dp.sub sub416 _ _ rf4)) (ed_int 1) rfl) eda_nil)) fun B18 H18 B19 H19 am s18 n1 n2 s19 wt nn1 nn2 => ?_
    obtain ⟨B20, sb20, f20, wfm, _⟩ := wt.open (T := T) s19.fz
    have s019 := (s017.trans s18).trans s19
    have tk19 := s019.ok tk
    have sub420 : Sub B4 B20 := ((sub416.trans s18.sub).trans s19.sub).trans sb20
    have sub20 : Sub B B20 := s4.sub.trans sub420
    have fin : ∀ {H' : Hp}, Sm T H19 H' → Fz B H' → Q (.bl true) H' := fun {H'} sm fz => q _ B H' ⟨s019.sm.trans sm, Sub.refl B, fz, fun _ _ h _ _ => h⟩ (.bl true)
    have rf20 := Dp.sub sub420 _ _ rf4
    have rl20 := Dp.sub sub420 _ _ rl4
    have wfe := wf.sub sub20
    have us5 : ∀ h l : Ks, Hk h → Hk l → (us sLt (h ++ l)).length ≤ 5 := fun h l k1 k2 => us_folk fun x hx => (List.mem_append.mp hx).elim (k1.2 x) (k2.2 x)
    refine sd_forT (enc := dT) (xs := gthat sl.1 s0.2 sl.2) f20 tk19 (ed_call (d := dTT (gthat sl.1 s0.2 sl.2)) (eda_cons (ed_ixT (d := dV sl.1) (ed_var rfl rl20) (ed_int 0) rfl) (eda_cons (ed_ixT (d := dT s0.2) (ed_var rfl rf20) (ed_int 1) rfl) (eda_cons (ed_ixT (d := dT sl.2) (ed_var rfl rl20) (ed_int 1) rfl) eda_nil))) ⟨sl.1, s0.2, sl.2, Nat.le_trans g0.h.1 (by decide), Nat.le_trans gl.h.1 (by decide), us5 _ _ g0.h gl.h, rfl, rfl⟩) fun B21 H21 s21 => ?_
    refine ⟨fun i σ' H' => ∃ (o9 : Option V), σ' = [some (.ref a.x), some u, some vf, some vl, some ve, some va, o6, some (.ref p), some (.ref qa), o9, some (.ref am.x), none, none] ∧ St T B21 H21 B21 H', ?_, ?_, ?_, ?_⟩
    · exact ⟨o9, rfl, St.refl s21.fz⟩
    · rintro i σ' H' ⟨_, _, s⟩
      exact s.fz
    · rintro i g v1 σ' H' hx rx ⟨o9, rfl, s⟩
      have hg := gthat_ok (List.mem_of_getElem? hx)
      refine sd_if (b := false) s.fz (s.ok (s21.ok tk19)) ((et_or (et_not (et_B (ed_meth (wfe.sub s21.sub) rfl (eda_cons (ed_var rfl rx) eda_nil) ⟨sl, g, hlast, rfl, rfl⟩))) fun _ => et_B (ed_meth (wfm.sub s21.sub) rfl (eda_cons (ed_var rfl rx) eda_nil) ⟨(sl.1, s0.2), g, rfl, rfl, rfl⟩)).is (by rw [hg.1]; show (!true || gop sl.1 s0.2 g) = false; rw [hg.2]; rfl)) (fun z => by cases z) fun _ H2 s2 => ⟨_, rfl, s.trans s2⟩
    rintro σ' H22 ⟨o9, rfl, s22⟩
    have s2022 := s21.trans s22
    have rf22 := Dp.sub s21.sub _ _ rf20
    have rl22 := Dp.sub s21.sub _ _ rl20
    refine sd_forT (enc := dT) (xs := gthat sl.1 sl.2 s0.2) s22.fz (s2022.ok tk19) (ed_call (d := dTT (gthat sl.1 sl.2 s0.2)) (eda_cons (ed_ixT (d := dV sl.1) (ed_var rfl rl22) (ed_int 0) rfl) (eda_cons (ed_ixT (d := dT s0.2) (ed_var rfl rf22) (ed_int 1) rfl) (eda_cons (ed_ixT (d := dT sl.2) (ed_var rfl rl22) (ed_int 1) rfl) eda_nil))) ⟨sl.1, s0.2, sl.2, Nat.le_trans g0.h.1 (by decide), Nat.le_trans gl.h.1 (by decide), us5 _ _ gl.h g0.h, rfl, rfl⟩) fun B23 H23 s23 => ?_
    have s2023 := s2022.trans s23
    refine ⟨fun i σ' H' => ∃ (o9 : Option V), σ' = [some (.ref a.x), some u, some vf, some vl, some ve, some va, o6, some (.ref p), some (.ref qa), o9, some (.ref am.x), none, none] ∧ St T B23 H23 B23 H', ?_, ?_, ?_, ?_⟩
    · exact ⟨o9, rfl, St.refl s23.fz⟩
    · rintro i σ' H' ⟨_, _, s⟩
      exact s.fz
    · rintro i g v1 σ' H' hx rx ⟨o9, rfl, s⟩
      have hg := gthat_ok (List.mem_of_getElem? hx)
      refine sd_if (b := false) s.fz (s.ok (s2023.ok tk19)) ((et_or (et_B (ed_meth (wfe.sub s2023.sub) rfl (eda_cons (ed_var rfl rx) eda_nil) ⟨sl, g, hlast, rfl, rfl⟩)) fun _ => et_not (et_B (ed_meth (wfm.sub s2023.sub) rfl (eda_cons (ed_var rfl rx) eda_nil) ⟨(sl.1, s0.2), g, rfl, rfl, rfl⟩))).is (by rw [hg.2]; show (false || !gop sl.1 s0.2 g) = false; rw [hg.1]; rfl)) (fun z => by cases z) fun _ H2 s2 => ⟨_, rfl, s.trans s2⟩
    rintro σ' H24 ⟨o9, rfl, s24⟩
    have s2024 := s2023.trans s24
    have rf24 := Dp.sub s2024.sub _ _ rf20
    have ks16 : s0.1.1.length ≤ 16 := by rw [g0.v.k]; exact Nat.le_trans W.few (by decide)
    refine sd_forL (enc := dT) (xs := subs s0.1.1) s24.fz (s2024.ok tk19) (ed_call (d := dLT (subs s0.1.1)) (eda_cons (ed_ixT (d := dT s0.1.1) (ed_ixT (d := dV s0.1) (ed_var rfl rf24) (ed_int 0) rfl) (ed_int 0) rfl) eda_nil) ⟨s0.1.1, ks16, rfl, rfl⟩) fun B25 H25 s25 => ?_
    have s2025 := s2024.trans s25
    refine ⟨fun i σ' H' => ∃ (o11 o12 : Option V) (B' : Hp), σ' = [some (.ref a.x), some u, some vf, some vl, some ve, some va, o6, some (.ref p), some (.ref qa), o9, some (.ref am.x), o11, o12] ∧ St T B25 H25 B' H', ?_, ?_, ?_, ?_⟩
    · exact ⟨none, none, B25, rfl, St.refl s25.fz⟩
    · rintro i σ' H' ⟨_, _, B', _, s⟩
      exact s.fz.sub s.sub
    · rintro i hd v1 σ' H' hx rx ⟨o11, o12, B', rfl, s⟩
      have hm := (srt_perm _).mem_iff.mp (List.mem_of_getElem? hx)
      have hin : ∀ t ∈ s0 :: S', ∀ y ∈ hd, y ∈ t.1.1 := fun t ht y hy => by
        rw [kk s0 ms0 t ht]
        exact (sub_of hm).subset hy
      have tkl := s.ok (s2025.ok tk19)
      have subl := s2025.sub.trans s.sub
      refine sd_asg (K := K) (d := .list (((s0 :: S').map fun t => ho t.1.2 hd).map .bool)) s.fz tkl ((ed_mapL (enc := dSt) (xs := s0 :: S') (fun t => .bool (ho t.1.2 hd)) (ed_var rfl (Dp.sub (sub20.trans subl) _ _ ru)) (fun _ => rfl) fun t ht vt B3 sb3 rt => ed_call (eda_cons (ed_ixT (d := dV t.1) (ed_var rfl rt) (ed_int 0) rfl) (eda_cons (ed_var rfl (Dp.sub (s.sub.trans sb3) _ _ rx)) eda_nil)) ⟨t.1, hd, hin t ht, rfl, rfl⟩).is (by rw [List.map_map]; rfl)) fun vt B4 H4 s4 rt => ?_
      refine sd_if (b := false) s4.fz (s4.ok tkl) (et_test (ed_nself (d := fo (s0 :: S') hd) ?_ (ed_meth (wfe.sub (subl.trans s4.sub)) rfl (eda_cons (ed_var rfl (Dp.sub (s.sub.trans s4.sub) _ _ rx)) eda_nil) ⟨hd, hin, rfl, rfl⟩) (ed_if (b := ((s0 :: S').map fun t => ho t.1.2 hd).any id) (et_test (ed_inB (ed_var rfl rt))) (fun hb => (ed_indexB rfl rt hb).is ?_) (fun hb => ed_non.is ?_)))) (fun z => by cases z) fun _ H5 s5 => ⟨_, _, B4, rfl, (s.trans s4).trans s5⟩
      · rw [fo_at]; split <;> rfl
      · rw [List.any_map] at hb
        rw [fo_at, if_pos (show (s0 :: S').any (fun t => ho t.1.2 hd) = true from hb), List.findIdx_map]; rfl
      · rw [List.any_map] at hb
        rw [fo_at, if_neg (by exact fun z => by rw [show (s0 :: S').any (fun t => ho t.1.2 hd) = false from hb] at z; cases z)]
    rintro σ' H26 ⟨o11, o12, B26, rfl, s26⟩
    have s2026 := s2025.trans s26
    exact sd_ret (σ := [some (.ref a.x), some u, some vf, some vl, some ve, some va, o6, some (.ref p), some (.ref qa), o9, some (.ref am.x), o11, o12]) (D := { nx := fun _ H' => Q .non H', rt := Q }) s26.fz (s2026.ok tk19) (ed_bl (K := K) true) fun v' B' H' s' r' => q v' B H' ⟨s019.sm.trans (s2026.trans s').sm, Sub.refl B, Fz.sub (sub20.trans (s2026.trans s').sub) s'.fz, fun _ _ h _ _ => h⟩ (dp_blB r')
end
end Vk

set_option Elab.async false
set_option linter.all false
set_option maxRecDepth 100000
set_option maxHeartbeats 1000000
/-! One case of the law: a watch and its states side by side (printed by pl5.py). -/
namespace Vk
open PySem L2 StX
open SlX (SlO Slt slH SCls Slot1 putS SlR)
section
variable {T : Tb} {K : PySem.W.Frag} {C : Addr} {σ : L2.St} {B H B' H' B1 H1 B2 H2 : Hp} {ta tb te : TE} {t : TA} {D : Ends} {i p : Nat} {d : PyData} {a : WA} {L S : List Stt} {E : List Ed} {o : HO}
theorem Wt.pa {p : Addr} (w : Wt K C B H a S E) (n : H p = none) : p ∉ a.ad := fun hp => by
  obtain ⟨c1, h1, _⟩ := w.s
  obtain ⟨c2, h2, _⟩ := w.e
  unfold WA.ad at hp
  rcases List.mem_cons.mp hp with rfl | hp
  · rw [w.ob] at n; cases n
  rcases List.mem_cons.mp hp with rfl | hp
  · rw [w.di] at n; cases n
  rcases List.mem_cons.mp hp with rfl | hp
  · rw [h1] at n; cases n
  · rw [List.mem_singleton.mp hp, h2] at n; cases n
theorem Wt.other {p : Addr} (w : Wt K C B H a S E) (hp : p ∉ a.ad) : Wt K C B (upd H p o) a S E := by
  have ne : ∀ b ∈ a.ad, upd H p o b = H b := fun b hb => upd_ne fun z => hp (z ▸ hb)
  have mx : a.x ∈ a.ad := by unfold WA.ad; simp
  have md : a.dx ∈ a.ad := by unfold WA.ad; simp
  have m1 : a.l1 ∈ a.ad := by unfold WA.ad; simp
  have m2 : a.l2 ∈ a.ad := by unfold WA.ad; simp
  exact ⟨(ne _ mx).trans w.ob, (ne _ md).trans w.di, let ⟨c, h, r⟩ := w.s; ⟨c, (ne _ m1).trans h, r⟩, let ⟨c, h, r⟩ := w.e; ⟨c, (ne _ m2).trans h, r⟩, w.nx, w.nd, w.n1, w.n2, w.ne⟩
theorem Wt.sm (w : Wt K C B H a S E) (sm : Sm T H H2) : Wt K C B H2 a S E :=
  ⟨sm.ext _ _ w.ob noT_slO, sm.ext _ _ w.di noT_xd, let ⟨c, h, r⟩ := w.s; ⟨c, sm.ext _ _ h noT_lst, r⟩, let ⟨c, h, r⟩ := w.e; ⟨c, sm.ext _ _ h noT_lst, r⟩, w.nx, w.nd, w.n1, w.n2, w.ne⟩
theorem nn_back {A : List Addr} {q : Addr} (s : St T B H B' H') (hA : ∀ b ∈ A, Nn H b) (n : Nn (cut A H') q) : Nn H q := by
  by_cases h : q ∈ A
  · exact hA q h
  · exact Nn.old s fun o e no => n o (by rw [cut_out h]; exact e) no
/-- a watch that may change; the states in the making at p -/
structure Cs (T : Tb) (K : PySem.W.Frag) (C : Addr) (B H : Hp) (p : Addr) (a : WA) (L S : List Stt) (E : List Ed) (B' H' : Hp) : Prop where
  st : St T B H B' H'
  nA : ∀ b ∈ a.ad, Nn H b
  np : Nn H p
  pa : p ∉ a.ad
  bp : B' p = none
  ap : ∃ acc, H' p = some (.lst acc) ∧ DpAll K B' acc (L.map dSt)
  w : Wt K C B' H' a S E
variable {p : Addr}
theorem Cs.new {ws : List V} (s : St T B H B1 H1) (hA : ∀ b ∈ a.ad, Nn H b) (w : Wt K C B1 H1 a S E) (n : H1 p = none) (r : DpAll K B1 ws (L.map dSt)) : Cs T K C B H p a L S E B1 (upd H1 p (.lst ws)) :=
  ⟨s.trans (St.work s.fz n), hA, Nn.old s (Nn.of n), w.pa n, s.fz.off n, ⟨ws, upd_same, r⟩, w.step (T := T) (St.work s.fz n)⟩
theorem Cs.step (m : Cs T K C B H p a L S E B1 H1) (s : St T B1 H1 B2 H2) : Cs T K C B H p a L S E B2 H2 := by
  obtain ⟨acc, h, r⟩ := m.ap
  obtain ⟨x1, x2⟩ := s.keepL noT_lst m.bp h
  exact ⟨m.st.trans s, m.nA, m.np, m.pa, x1, ⟨acc, x2, DpAll.sub s.sub _ _ r⟩, m.w.step s⟩
theorem Cs.open (m : Cs T K C B H p a L S E B1 H1) : ∃ B2, Sub B1 B2 ∧ Fz B2 H1 ∧ Wf K C B2 a S E ∧ Dp K B2 (.ref p) (.list (L.map dSt)) ∧ ∀ H2, St T B2 H1 B2 H2 → Cs T K C B H p a L S E B1 H2 := by
  obtain ⟨acc, h, r⟩ := m.ap
  have f1 : Fz (upd B1 p (.lst acc)) H1 := m.st.fz.withL noT_lst h
  have sb : Sub B1 (upd B1 p (.lst acc)) := Sub.withL m.bp
  have ne : ∀ b ∈ a.ad, upd B1 p (.lst acc) b = B1 b := fun b hb => upd_ne fun z => m.pa (z ▸ hb)
  have mx : a.x ∈ a.ad := by unfold WA.ad; simp
  have md : a.dx ∈ a.ad := by unfold WA.ad; simp
  have m1 : a.l1 ∈ a.ad := by unfold WA.ad; simp
  have m2 : a.l2 ∈ a.ad := by unfold WA.ad; simp
  have w1 : Wt K C (upd B1 p (.lst acc)) H1 a S E := ⟨m.w.ob, m.w.di, let ⟨c, h, r⟩ := m.w.s; ⟨c, h, DpAll.sub sb _ _ r⟩, let ⟨c, h, r⟩ := m.w.e; ⟨c, h, DpAll.sub sb _ _ r⟩, (ne _ mx).trans m.w.nx, (ne _ md).trans m.w.nd, (ne _ m1).trans m.w.n1, (ne _ m2).trans m.w.n2, m.w.ne⟩
  obtain ⟨B2, s2, f2, wf, _⟩ := w1.open (T := T) f1
  refine ⟨B2, sb.trans s2, f2, wf, Dp.sub s2 _ _ (Dp.newL m.bp r), fun H2 s => ?_⟩
  exact ⟨m.st.read (sb.trans s2) s, m.nA, m.np, m.pa, m.bp, ⟨acc, s.sm.ext p _ h noT_lst, r⟩, m.w.sm s.sm⟩
theorem Cs.app {s : Stt} (m : Cs T K C B H p a L S E B1 H1) (hv : σ[i]? = some (some (.ref p))) (hz : L.length < sizeLine) (h : ∀ Q : VK, (∀ v B2 H2, St T B1 H1 B2 H2 → Dp K B2 v (dSt s) → Q v H2) → te σ H1 Q)
    (k : ∀ B2 H2, Sub B1 B2 → Cs T K C B H p a (L ++ [s]) S E B2 H2 → D.nx σ H2) : tDrop (tBM K "list" rAppend (tVar i) (tCons te tNil)) D σ H1 := by
  obtain ⟨acc, hp, r⟩ := m.ap
  refine ⟨.ref p, hv, .inl ⟨rfl, _, SqL.of hp⟩, h _ fun y B2 H2 s2 ry => ?_⟩
  have m2 := m.step s2
  obtain ⟨a1, h1, r1⟩ := m2.ap
  exact ⟨p, a1, y, rfl, rfl, h1, by rw [r1.length, List.length_map]; exact hz, k B2 _ s2.sub ⟨m2.st.mutN m2.np m2.bp h1 noT_lst nc_lst, m2.nA, m2.np, m2.pa, m2.bp, ⟨_, upd_same, by rw [List.map_append]; exact DpAll.append r1 (.cons ry .nil)⟩, m2.w.other m2.pa⟩⟩
theorem Cs.after (m : Cs T K C B H p a L S E B1 H1) {S' : List Stt} {E' : List Ed} {a' : WA} (s : St T B1 (cut a.ad H1) B2 H2) (w : Wt K C B2 H2 a' S' E') (e1 : a'.x = a.x) (e2 : a'.dx = a.dx) (n1 : a'.l1 = a.l1 ∨ Nn (cut a.ad H1) a'.l1) (n2 : a'.l2 = a.l2 ∨ Nn (cut a.ad H1) a'.l2) : Cs T K C B H p a' L S' E' B2 H2 := by
  obtain ⟨acc, hp, r⟩ := m.ap
  have hc : cut a.ad H1 p = some (.lst acc) := by rw [cut_out m.pa]; exact hp
  obtain ⟨x1, x2⟩ := s.keepL noT_lst m.bp hc
  have mx : a.x ∈ a.ad := by unfold WA.ad; simp
  have md : a.dx ∈ a.ad := by unfold WA.ad; simp
  have m1 : a.l1 ∈ a.ad := by unfold WA.ad; simp
  have m2 : a.l2 ∈ a.ad := by unfold WA.ad; simp
  have nn1 : Nn H a'.l1 ∧ p ≠ a'.l1 := by
    rcases n1 with z | z
    · rw [z]; exact ⟨m.nA _ m1, fun e => m.pa (e ▸ m1)⟩
    · exact ⟨nn_back m.st m.nA z, fun e => z _ (e ▸ hc) noT_lst⟩
  have nn2 : Nn H a'.l2 ∧ p ≠ a'.l2 := by
    rcases n2 with z | z
    · rw [z]; exact ⟨m.nA _ m2, fun e => m.pa (e ▸ m2)⟩
    · exact ⟨nn_back m.st m.nA z, fun e => z _ (e ▸ hc) noT_lst⟩
  refine ⟨St.cutTrans m.st m.nA m.w.cuts s, fun b hb => ?_, m.np, fun hb => ?_, x1, ⟨acc, x2, DpAll.sub s.sub _ _ r⟩, w⟩
  · unfold WA.ad at hb
    rcases List.mem_cons.mp hb with rfl | hb
    · rw [e1]; exact m.nA _ mx
    rcases List.mem_cons.mp hb with rfl | hb
    · rw [e2]; exact m.nA _ md
    rcases List.mem_cons.mp hb with rfl | hb
    · exact nn1.1
    · rw [List.mem_singleton.mp hb]; exact nn2.1
  · unfold WA.ad at hb
    rcases List.mem_cons.mp hb with z | hb
    · exact m.pa (by rw [z, e1]; exact mx)
    rcases List.mem_cons.mp hb with z | hb
    · exact m.pa (by rw [z, e2]; exact md)
    rcases List.mem_cons.mp hb with z | hb
    · exact nn1.2 z
    · exact nn2.2 (List.mem_singleton.mp hb)
abbrev rNotNn : R2 := fun x y H Q => y = .non ∧ Q (.bl (!decide (x = .non))) H
theorem Cs.do {X : XK} {s : Stt} {e : Ed} {tt u : TS} (m : Cs T K C B H p a L S E B1 H1) (tk : TOk T H1) (hv : σ[i]? = some (some (.ref a.x))) (ht : ED T K te σ B1 (dE e)) (hl : S.getLast? = some s) (ok : EdOk s.1 e) (l1 : S.length < 1000) (l2 : E.length < 1000)
    (k : ∀ B2 H2, Sub B1 B2 → Cs T K C B H p a L (S ++ [edt s.1 s.2 e]) (E ++ [e]) B2 H2 → u D σ H2) : tIfS (tTest (tOp rNotNn (SlX.tMethSl C (spDo T K C) X (tVar i) (tCons te tNil)) (tC .non))) tt u D σ H1 :=
  ⟨_, hv, a.x, a.dx, _, rfl, m.w.slt, ht H1 m.st.fz tk _ fun ve B2 H2 s1 r1 => ⟨B2, a, ve, S, E, s, e, rfl, s1.fz, s1.ok tk, (m.step s1).w, r1, hl, ok, l1, l2, fun B3 H3 s2 w2 => ⟨rfl, false, rfl, k B3 H3 (s1.sub.trans s2.sub) ((m.step s1).after s2 w2 rfl rfl (.inl rfl) (.inl rfl))⟩⟩⟩
theorem Cs.back {X : XK} {s : Stt} {n : Nat} {tu : TT} {Q : Bool → Hp → Prop} (m : Cs T K C B H p a L S E B1 H1) (tk : TOk T H1) (hv : σ[i]? = some (some (.ref a.x))) (ht : ED T K te σ B1 (.int n)) (hl : S.head? = some s) (hn : n < E.length) (hE : E.length < 900) (ok : okE s (E.eraseIdx n))
    (k : ∀ B2 H2 a', a'.x = a.x → Sub B1 B2 → Cs T K C B H p a' L (s :: runE s (E.eraseIdx n)) (E.eraseIdx n) B2 H2 → tu σ H2 Q) : tOr (tTest (tOp rNotNn (SlX.tMethSl C (spBack T K C) X (tVar i) (tCons te tNil)) (tC .non))) tu σ H1 Q :=
  ⟨_, hv, a.x, a.dx, _, rfl, m.w.slt, ht H1 m.st.fz tk _ fun ve B2 H2 s1 r1 => by
    cases r1
    exact ⟨B2, a, n, S, E, s, rfl, s1.fz, s1.ok tk, (m.step s1).w, hl, hn, hE, ok, fun B3 H3 a' e1 e2 n1 n2 s2 w2 => ⟨rfl, false, rfl, k B3 H3 a' e1 (s1.sub.trans s2.sub) ((m.step s1).after s2 w2 e1 e2 (.inr n1) (.inr n2))⟩⟩⟩
theorem ed_callW {A : List Stt → List Ed → List PyData → PyData → Prop} {X : XK} {ds : List PyData} (w : Wf K C B a S E) (h : σ[i]? = some (some (.ref a.x))) (ht : EDA T K t σ B ds) (hA : A S E ds d) : ED T K (tCall (spW T K C A) [] X (tCons (tVar i) t)) σ B d := fun H f tk Q q =>
  ⟨_, h, ht H f tk _ fun vs B1 H1 s1 r1 => ⟨B1, a, S, E, vs, ds, d, by rw [List.append_nil], s1.fz, s1.ok tk, w.sub s1.sub, r1, hA, fun v B' H' s' r' => q v B' H' (s1.trans s') r'⟩⟩
/-- a mere reading at this heap -/
def Rd (te : TE) (σ : L2.St) (H : Hp) (v : V) : Prop := ∀ Q : VK, Q v H → te σ H Q
theorem Cs.lastRd {s : Stt} (m : Cs T K C B H p a L S E B1 H1) (hv : σ[i]? = some (some (.ref p))) (hl : L.getLast? = some s) : ∃ v, Dp K B1 v (dSt s) ∧ Rd (tOp (rIxL K) (tVar i) (tUn (rU fun i => .int (-i)) (tC (.int 1)))) σ H1 v := by
  obtain ⟨acc, hp, r⟩ := m.ap
  obtain ⟨y, hy, ry⟩ := dp_at (i := -1) r (atLast (x := dSt s) (by rw [List.getLast?_map, hl]; rfl))
  exact ⟨y, ry, fun Q q => ⟨_, hv, 1, rfl, p, acc, -1, y, rfl, rfl, SqL.of hp, hy, q⟩⟩
theorem part_add {i : Nat} {n : Int} (h : σ[i]? = some (some (.int n))) (H : Hp) (Q : Option Int → Hp → Prop) : tPart (tOp (rI0 fun i j => .int (i + j)) (tVar i) (tC (.int 1))) σ H Q = Q (some (n + 1)) H := propext ⟨fun ⟨v, e, a, b, e2, e3, j, e4, q⟩ => by
  rw [h] at e; cases e; cases e2; cases e3; cases e4; exact q, fun q => ⟨_, h, n, 1, rfl, rfl, n + 1, rfl, q⟩⟩
theorem rd_ixT {v : V} {k : Int} {ds : List PyData} (f : Fz B H) (r : Dp K B v (.tuple ds)) (h : Rd ta σ H v) (ha : atI ds k = some d) : ∃ u, Dp K B u d ∧ Rd (tOp (rIxT K) ta (tC (.int k))) σ H u := by
  cases r with
  | @tup b zs _ hb t =>
    obtain ⟨y, hy, ry⟩ := dp_at t ha
    exact ⟨y, ry, fun Q q => h _ ⟨b, zs, k, y, rfl, rfl, sqT_sub (fz_sub f) hb, hy, q⟩⟩
theorem sd_start {X : XK} {i j l i0 i1 : Nat} {v0 v1 : V} {vt : Vt} {hs : Ks} (f : Fz B H) (tk : TOk T H) (h0 : σ[i0]? = some (some v0)) (h1 : σ[i1]? = some (some v1)) (r0 : Dp K B v0 (dV vt)) (r1 : Dp K B v1 (dT hs))
    (k : ∀ a p w B2 H2, Dp K B2 w (.tuple []) → Sub B B2 → Cs T K C B H p a [(vt, hs)] [(vt, hs)] [] B2 H2 → D.nx (((σ.set i (some (.ref a.x))).set j (some (.ref p))).set l (some w)) H2) :
    tPar3 i j l (tCons (tMake C (spInit T K C) [] X (tCons (tVar i0) (tCons (tVar i1) tNil))) (tCons (tLst (tCons (tTup (tCons (tVar i0) (tCons (tVar i1) tNil))) tNil)) (tCons (tTup tNil) tNil))) D σ H := by
  show tCons (tVar i0) (tCons (tVar i1) tNil) σ H (fun vs H1 => ∀ x dx, H1 x = none → H1 dx = none → dx ≠ x → spInit T K C (.ref x :: (vs ++ [])) (upd (upd H1 dx (.own x)) x (.ins C dx [])) (fun v H2 => v = .non ∧ tCons (tLst (tCons (tTup (tCons (tVar i0) (tCons (tVar i1) tNil))) tNil)) (tCons (tTup tNil) tNil) σ H2 (fun us H3 => ∃ u v w, .ref x :: us = [u, v, w] ∧ D.nx (((σ.set i (some u)).set j (some v)).set l (some w)) H3)) X)
  refine (eda_cons (ed_var h0 r0) (eda_cons (ed_var h1 r1) eda_nil)) H f tk _ fun vs B1 H1 s r => ?_
  · skip
    obtain ⟨v, u, rfl, q1, q2⟩ := DpAll.two r
    refine fun x dx n1 n2 hne => ⟨B1, H1, x, dx, v, u, vt, hs, rfl, s.fz, s.ok tk, n1, n2, hne, rfl, q1, q2, fun B' H' a e1 e2 s' w m1 m2 => ⟨rfl, ?_⟩⟩
    subst e1
    subst e2
    have sub1 := s.sub.trans s'.sub
    show tCons (tTup (tCons (tVar i0) (tCons (tVar i1) tNil))) tNil σ H' (fun ws H2 => ws.length ≤ sizeLine ∧ ∀ p, H2 p = none → tCons (tTup tNil) tNil σ (upd H2 p (.lst ws)) (fun us H3 => ∃ u v w, .ref a.x :: (.ref p :: us) = [u, v, w] ∧ D.nx (((σ.set i (some u)).set j (some v)).set l (some w)) H3))
    refine (eda_cons (ed_tup (eda_cons (ed_var h0 (Dp.sub sub1 _ _ r0)) (eda_cons (ed_var h1 (Dp.sub sub1 _ _ r1)) eda_nil)) (by show 2 ≤ sizeLine; rw [← big_line]; decide)) eda_nil) H' s'.fz (s'.ok (s.ok tk)) _ fun ws B2 H2 s2 rw2 => ⟨by rw [rw2.length]; exact len1, fun p np => ⟨Nat.zero_le _, fun q nq => ⟨_, _, _, rfl, ?_⟩⟩⟩
    have hA : ∀ b ∈ a.ad, Nn H b := fun b hb => by
      unfold WA.ad at hb
      rcases List.mem_cons.mp hb with rfl | hb
      · exact Nn.old s (Nn.of n1)
      rcases List.mem_cons.mp hb with rfl | hb
      · exact Nn.old s (Nn.of n2)
      rcases List.mem_cons.mp hb with rfl | hb
      · exact Nn.old s m1
      · rw [List.mem_singleton.mp hb]; exact Nn.old s m2
    have cs : Cs T K C B H p a [(vt, hs)] [(vt, hs)] [] B2 (upd H2 p (.lst ws)) := Cs.new ((s.trans s').trans s2) hA (w.step s2) np rw2
    have sl := St.laid (T := T) cs.st.fz nq (noT_tup (xs := []))
    exact k a p (.ref q) _ _ (Dp.newT (cs.st.fz.off nq) .nil) ((sub1.trans s2.sub).trans sl.sub) (cs.step sl)
theorem Cs.renew {s : Stt} (m : Cs T K C B H p a L S E B1 H1) (tk : TOk T H1) (h : ED T K te σ B1 (dSt s)) (k : ∀ p2 B2 H2, Sub B1 B2 → Cs T K C B H p2 a [s] S E B2 H2 → D.nx (σ.set i (some (.ref p2))) H2) : tAsg (tLst (tCons te tNil)) (gName i) D σ H1 := by
  show tCons te tNil σ H1 (fun ws H2 => ws.length ≤ sizeLine ∧ ∀ p, H2 p = none → D.nx (σ.set i (some (.ref p))) (upd H2 p (.lst ws)))
  exact (eda_cons h eda_nil) H1 m.st.fz tk _ fun ws B2 H2 s2 r => ⟨by rw [r.length]; exact len1, fun p2 n => k p2 B2 _ s2.sub (Cs.new (m.st.trans s2) m.nA (m.w.step s2) n r)⟩
end
def wd : Ed → Str
  | .opens _ => "opens"
  | .bars _ => "bars"
  | .lost _ => "lost"
  | .left _ => "left"
  | .swap _ _ => "swap"
  | .hand _ _ => "hand"
section
variable {T : Tb} {K : PySem.W.Frag} {σ : L2.St} {B : Hp} {i : Nat} {v : V}
theorem ed_word (e : Ed) (h : σ[i]? = some (some v)) (r : Dp K B v (dE e)) : ED T K (tOp (rIxT K) (tVar i) (tC (.int 0))) σ B (.str (wd e)) := by
  cases e <;> exact ed_ixT (ed_var h r) (ed_int 0) rfl
theorem no_opens : ("opens" : Str) ≠ "hand" := by decide
theorem no_bars : ("bars" : Str) ≠ "hand" := by decide
theorem no_lost : ("lost" : Str) ≠ "hand" := by decide
theorem no_left : ("left" : Str) ≠ "hand" := by decide
theorem no_swap : ("swap" : Str) ≠ "hand" := by decide
theorem hand_of {e : Ed} (h : wd e = "hand") : ∃ x p, e = .hand x p := by
  cases e with
  | hand x p => exact ⟨x, p, rfl⟩
  | opens l => exact absurd (h : ("opens" : Str) = "hand") no_opens
  | bars l => exact absurd (h : ("bars" : Str) = "hand") no_bars
  | lost l => exact absurd (h : ("lost" : Str) = "hand") no_lost
  | left l => exact absurd (h : ("left" : Str) = "hand") no_left
  | swap x y => exact absurd (h : ("swap" : Str) = "hand") no_swap
theorem hand_no {e : Ed} {x q : Str} (h : wd e ≠ "hand") : e ≠ .hand x q := fun z => h (by rw [z]; rfl)
end
theorem shaped_dEs {E : List Ed} (h : ∀ e ∈ E, (dE e).canLay0 = true) : SeqAt.shaped (.tuple (E.map dE)) = true :=
  shape_of (n := 4) (lay_tup fun d hd => by obtain ⟨e, he, rfl⟩ := List.mem_map.mp hd; exact h e he) (by rw [dep_tuple]; exact Nat.succ_le_succ (depAll_le fun d hd => by obtain ⟨e, he, rfl⟩ := List.mem_map.mp hd; exact dep_dE e))
def A_case (ds : List PyData) (d : PyData) : Prop := ∃ (ks : Ks) (s0 : Stt) (E : List Ed) (ns : List Nat), WKs ks ∧ Gs ks s0 ∧ (∀ e ∈ E, EdIn ks e) ∧ E.length ≤ 50 ∧ (∀ i n, ns[i]? = some n → n + i < E.length) ∧ ds = [dV s0.1, dT s0.2, .tuple (E.map dE), .tuple (ns.map fun n => .int (n : Nat))] ∧ d = .bool true
section
variable {P : Program} {w : World} {K : PySem.W.Frag} {mg : Str → Option Value} {base : Heap} {T : Tb}
theorem ok_law_case_right (c : Code K mg) (G_Watch_init : FnOk P w K mg base CX0 5 c.Watch_init.f c.Watch_init.fd ["self", "vault", "holders"] (spInit T K c.C)) (G_Watch_do : FnOk P w K mg base CX0 8 c.Watch_do.f c.Watch_do.fd ["self", "edit"] (spDo T K c.C)) (G_Watch_back_alone : FnOk P w K mg base CX0 9 c.Watch_back_alone.f c.Watch_back_alone.fd ["self", "place"] (spBack T K c.C)) (G_Watch_told : FnOk P w K mg base CX0 1 c.Watch_told.f c.Watch_told.fd ["self"] (spW T K c.C A_told)) (G_edited : FnOk P w K mg base CX0 7 c.edited.f c.edited.fd ["vault", "holders", "edit"] (spD T K A_edited)) (G_handed : FnOk P w K mg base CX0 5 c.handed.f c.handed.fd ["vault", "holders", "key", "person"] (spD T K A_handed)) (G__law_state_right : FnOk P w K mg base CX0 9 c._law_state_right.f c._law_state_right.fd ["_law_eyes", "_law_states_so"] (spW T K c.C A_state)) : FnOk P w K mg base CX0 10 c._law_case_right.f c._law_case_right.fd ["_law_vault_so", "_law_mine_so", "_law_edits_so", "_law_places_so"] (spD T K A_case) := by
  refine pure_ok c._law_case_right.F sc__law_case_right (fun ds d h => ?_) (fun cdv A' outer s H B vs ds d E hr f tk r hA => ?_)
  · obtain ⟨_, _, _, _, _, _, _, _, _, rfl, _⟩ := h; rfl
  · obtain ⟨ks, s0, Es, ns, W, g0, hin, hle, hpl, rfl, rfl⟩ := hA
    obtain ⟨v0, v1, v2, v3, rfl, r0, r1, r2, r3⟩ := DpAll.four r
    have hu := hr.u64
    have z3 : ∀ {n : Nat}, n ≤ 1000 → n ≤ sizeLine := fun h => by rw [← big_line]; omega
    refine ⟨_, (pss_cons (ps_par3 (by rfl) sc__law_case_right.nd (i := 4) (j := 5) (l := 6) rfl rfl rfl (by decide) (by decide) (by decide) rfl rfl rfl (pa_cons (pe_make (E := E0) c.mkW G_Watch_init (hr.mono (by decide)) (by rfl) c.gC c.Watch_init.b .nil pass0 (pa_cons (pv 0) (pa_cons (pv 1) pa_nil))) (pa_cons (pe_lst (pa_cons (pe_tup (pa_cons (pv 0) (pa_cons (pv 1) pa_nil))) pa_nil)) (pa_cons (pe_tup pa_nil) pa_nil))) (by rfl)) (pss_cons (ps_for PassesOwn.never rfl (kPiT (K := K) rfl (kSz (K := K) rfl (pv 2))) (pg_name (i := 7) sc__law_case_right.nd rfl (Or.inl rfl)) (pss_cons (ps_set (i := 8) sc__law_case_right.nd rfl (Or.inl rfl) (pe_ix (kIxL (K := K) rfl) (pv 5) (pe_un un_neg pe_int) (fun _ _ => rfl))) (pss_cons (ps_if (pt_cmpR op_eq (pe_ix (kIxT (K := K) rfl) (pv 7) pe_int (fun _ _ => rfl)) pe_str (nomark _)) (pss_one (ps_expr (pe_bm PySem.F.plainAttrs_list PySem.F.slot_list_append PySem.F.type_list_append mt_append (pv 5) (pa_cons (pe_tup (pa_cons (pe_ix (kIxT (K := K) rfl) (pv 8) pe_int (fun _ _ => rfl)) (pa_cons (pe_call G_handed (hr.mono (by decide)) (by rfl) c.handed.g c.handed.F.kp c.handed.b .nil pass0 (pa_cons (pe_ix (kIxT (K := K) rfl) (pv 8) pe_int (fun _ _ => rfl)) (pa_cons (pe_ix (kIxT (K := K) rfl) (pv 8) pe_int (fun _ _ => rfl)) (pa_cons (pe_ix (kIxT (K := K) rfl) (pv 7) pe_int (fun _ _ => rfl)) (pa_cons (pe_ix (kIxT (K := K) rfl) (pv 7) pe_int (fun _ _ => rfl)) pa_nil))))) pa_nil))) pa_nil)))) (pss_one (ps_expr (pe_bm PySem.F.plainAttrs_list PySem.F.slot_list_append PySem.F.type_list_append mt_append (pv 5) (pa_cons (pe_call G_edited (hr.mono (by decide)) (by rfl) c.edited.g c.edited.F.kp c.edited.b .nil pass0 (pa_cons (pe_ix (kIxT (K := K) rfl) (pv 8) pe_int (fun _ _ => rfl)) (pa_cons (pe_ix (kIxT (K := K) rfl) (pv 8) pe_int (fun _ _ => rfl)) (pa_cons (pv 7) pa_nil)))) pa_nil))))) (pss_cons (ps_set (i := 6) sc__law_case_right.nd rfl (Or.inl rfl) (pe_op (kCatT (K := K) rfl) (pv 6) (pe_tup (pa_cons (pv 7) pa_nil)))) (pss_one (ps_if (pt_cmpR op_notN (SlX.pe_methSl (E := E0) (pv 4) c.cl c.me_do (fnr G_Watch_do c.Watch_do.b) (hr.mono (by decide)) pass0 (pa_cons (pv 7) pa_nil)) pe_non (nomark _)) (pss_one (ps_ret pe_bl)) pss_nil)))))) (pss_cons (ps_if (pt_not (pt_val (pe_call G__law_state_right (hr.mono (by decide)) (by rfl) c._law_state_right.g c._law_state_right.F.kp c._law_state_right.b .nil pass0 (pa_cons (pv 4) (pa_cons (pv 5) pa_nil))))) (pss_one (ps_ret pe_bl)) pss_nil) (pss_cons (ps_for PassesOwn.never rfl (kPiT (K := K) rfl (kSz (K := K) rfl (pv 3))) (pg_name (i := 9) sc__law_case_right.nd rfl (Or.inl rfl)) (pss_cons (ps_set (i := 6) sc__law_case_right.nd rfl (Or.inl rfl) (pe_op (kCatT (K := K) rfl) (pe_slice (kSlT (K := K) rfl) (pv 6) po_none (po_some (pv 9))) (pe_slice (kSlT (K := K) rfl) (pv 6) (po_some (pe_op op_add (pv 9) pe_int)) po_none))) (pss_cons (ps_set (i := 5) sc__law_case_right.nd rfl (Or.inl rfl) (pe_lst (pa_cons (pe_tup (pa_cons (pv 0) (pa_cons (pv 1) pa_nil))) pa_nil))) (pss_cons (ps_for PassesOwn.never rfl (kPiT (K := K) rfl (kSz (K := K) rfl (pv 6))) (pg_name (i := 7) sc__law_case_right.nd rfl (Or.inl rfl)) (pss_one (ps_expr (pe_bm PySem.F.plainAttrs_list PySem.F.slot_list_append PySem.F.type_list_append mt_append (pv 5) (pa_cons (pe_call G_edited (hr.mono (by decide)) (by rfl) c.edited.g c.edited.F.kp c.edited.b .nil pass0 (pa_cons (pe_ix (kIxT (K := K) rfl) (pe_ix (kIxL (K := K) rfl) (pv 5) (pe_un un_neg pe_int) (fun _ _ => rfl)) pe_int (fun _ _ => rfl)) (pa_cons (pe_ix (kIxT (K := K) rfl) (pe_ix (kIxL (K := K) rfl) (pv 5) (pe_un un_neg pe_int) (fun _ _ => rfl)) pe_int (fun _ _ => rfl)) (pa_cons (pv 7) pa_nil)))) pa_nil))))) (pss_one (ps_if (PW.pt (pw_or (pt_cmpR op_notN (SlX.pe_methSl (E := E0) (pv 4) c.cl c.me_back_alone (fnr G_Watch_back_alone c.Watch_back_alone.b) (hr.mono (by decide)) pass0 (pa_cons (pv 9) pa_nil)) pe_non (nomark _)) (pw_or (pt_cmpR (kNeD (K := K) rfl hu) (SlX.pe_propSl (E := E0) (pv 4) c.cl c.pr_told.at_ c.pr_told.get c.pr_told.tk c.pr_told.rc (fnr G_Watch_told c.Watch_told.b) (hr.mono (by decide)) (fun _ _ _ _ z => z)) (pv 6) (nomark _)) (pw_or1 (pt_not (pt_val (pe_call G__law_state_right (hr.mono (by decide)) (by rfl) c._law_state_right.g c._law_state_right.F.kp c._law_state_right.b .nil pass0 (pa_cons (pv 4) (pa_cons (pv 5) pa_nil))))))))) (pss_one (ps_ret pe_bl)) pss_nil)))))) (pss_one (ps_ret pe_bl)))))), fun D q => ?_⟩
    have inT : ∀ n, ∀ e ∈ Es.take n, EdIn ks e := fun n e he => hin e (List.mem_of_mem_take he)
    have runLen : ∀ es : List Ed, (s0 :: runE s0 es).length = es.length + 1 := fun es => by rw [List.length_cons, runE_len]
    have lastOf : ∀ es : List Ed, (∀ e ∈ es, EdIn ks e) → ∃ s', (s0 :: runE s0 es).getLast? = some s' ∧ Gs ks s' := fun es he => by
      obtain ⟨s', hs'⟩ : ∃ s', (s0 :: runE s0 es).getLast? = some s' := ⟨_, List.getLast?_eq_some_getLast (by simp)⟩
      refine ⟨s', hs', ?_⟩
      rcases List.mem_cons.mp (List.mem_of_getLast? hs') with rfl | hm
      · exact g0
      · exact (runE_good W es s0 g0 he).2 s' hm
    have good : ∀ es : List Ed, (∀ e ∈ es, EdIn ks e) → es.length ≤ 50 → ∃ ks : Ks, WKs ks ∧ (∀ s ∈ s0 :: runE s0 es, Gs ks s) ∧ (s0 :: runE s0 es) ≠ [] ∧ (s0 :: runE s0 es).length ≤ 100 := fun es he hl => by
      refine ⟨ks, W, fun s hs => ?_, by simp, by rw [runLen]; omega⟩
      rcases List.mem_cons.mp hs with rfl | hm
      · exact g0
      · exact (runE_good W es s0 g0 he).2 s hm
    have step : ∀ (es : List Ed) (i : Nat) (e : Ed) (s' : Stt), es[i]? = some e → (s0 :: runE s0 (es.take i)).getLast? = some s' → s0 :: runE s0 (es.take (i + 1)) = (s0 :: runE s0 (es.take i)) ++ [edt s'.1 s'.2 e] := fun es i e s' he hl => by
      have : es.take (i + 1) = es.take i ++ [e] := by rw [List.take_succ, he]; rfl
      rw [this, runE_app s0 _ e s' hl]; rfl
    refine sd_start (C := c.C) (vt := s0.1) (hs := s0.2) f tk rfl rfl r0 r1 fun a p vt B1 H1 rt sb1 m => ?_
    have sbB : ∀ {B2 : Hp}, Sub B1 B2 → Sub B B2 := fun h => sb1.trans h
    refine sd_forT (enc := dE) (xs := Es) m.st.fz (m.st.ok tk) (ed_var rfl (Dp.sub sb1 _ _ r2)) fun B2 H2 s2 => ?_
    refine ⟨fun i σ' H' => ∃ (o7 o8 : Option V) (vt : V) (B' : Hp), σ' = [some v0, some v1, some v2, some v3, some (.ref a.x), some (.ref p), some vt, o7, o8, none] ∧ Sub B2 B' ∧ Dp K B' vt (.tuple ((Es.take i).map dE)) ∧ Cs T K c.C B H p a (s0 :: runE s0 (Es.take i)) (s0 :: runE s0 (Es.take i)) (Es.take i) B' H', ?_, ?_, ?_, ?_⟩
    · exact ⟨none, none, vt, B2, rfl, Sub.refl _, Dp.sub s2.sub _ _ rt, m.step s2⟩
    · rintro i σ' H' ⟨_, _, _, B', _, sb, _, m⟩
      exact m.st.fz.sub sb
    · rintro i e ve σ' H' hx re ⟨o7, o8, vt, B', rfl, sb, rt, m⟩
      have hi : i < Es.length := (List.getElem?_eq_some_iff.mp hx).1
      have hle' : (Es.take i).length ≤ 50 := by rw [List.length_take]; omega
      have he : EdIn ks e := hin e (List.mem_of_getElem? hx)
      obtain ⟨s', hl', g'⟩ := lastOf (Es.take i) (inT i)
      have e1 := step Es i e s' hx hl'
      have e2 : Es.take (i + 1) = Es.take i ++ [e] := by rw [List.take_succ, hx]; rfl
      have hlen := runLen (Es.take i)
      have tk' := m.st.ok tk
      have hok := g'.edOk W he
      have re := Dp.sub sb _ _ re
      obtain ⟨vl, rl, rd⟩ := m.lastRd (σ := [some v0, some v1, some v2, some v3, some (.ref a.x), some (.ref p), some vt, some ve, o8, none]) (i := 5) rfl hl'
      refine rd _ ?_
      have fin : ∀ B3 H3, Sub B' B3 → Cs T K c.C B H p a ((s0 :: runE s0 (Es.take i)) ++ [edt s'.1 s'.2 e]) (s0 :: runE s0 (Es.take i)) (Es.take i) B3 H3 → ∀ D : Ends, (∀ vt B4 H4, Sub B3 B4 → Dp K B4 vt (.tuple ((Es.take (i + 1)).map dE)) → Cs T K c.C B H p a (s0 :: runE s0 (Es.take (i + 1))) (s0 :: runE s0 (Es.take (i + 1))) (Es.take (i + 1)) B4 H4 → D.nx [some v0, some v1, some v2, some v3, some (.ref a.x), some (.ref p), some vt, some ve, some vl, none] H4) →
          tSeq (tAsg (tOp (rCatA K) (tVar 6) (tTup (tCons (tVar 7) tNil))) (gName 6)) (tIfS (tTest (tOp rNotNn (SlX.tMethSl c.C (spDo T K c.C) E0 (tVar 4) (tCons (tVar 7) tNil)) (tC .non))) (tRet (tC (.bl false))) tNext) D [some v0, some v1, some v2, some v3, some (.ref a.x), some (.ref p), some vt, some ve, some vl, none] H3 := fun B3 H3 sb3 m3 D kk => by
        refine sd_asg (K := K) m3.st.fz (m3.st.ok tk) (ed_catT (ed_var rfl (Dp.sub sb3 _ _ rt)) (ed_tup (eda_cons (ed_var rfl (Dp.sub sb3 _ _ re)) eda_nil) len1) (z3 (by rw [List.length_map]; show (Es.take i).length + 1 ≤ 1000; omega))) fun vt2 B4 H4 s4 rt2 => ?_
        refine (m3.step s4).do ((m3.step s4).st.ok tk) rfl (ed_var rfl (Dp.sub (sb3.trans s4.sub) _ _ re)) hl' hok (by omega) (by omega) fun B5 H5 sb5 m5 => ?_
        refine kk vt2 B5 H5 (s4.sub.trans sb5) ?_ ?_
        · rw [e2, List.map_append]; exact Dp.sub sb5 _ _ rt2
        · rw [e1, e2]; exact m5
      refine sd_if (b := decide (wd e = "hand")) m.st.fz tk' (et_test (ed_eqS (ed_word e rfl re) (ed_str "hand"))) (fun hb H3 s3 => ?_) (fun hb H3 s3 => ?_)
      · obtain ⟨x, q, rfl⟩ := hand_of (of_decide_eq_true hb)
        have m3 := m.step s3
        have hx' : x ∈ s'.1.1 := hok.2.2.2.1 x (by show x ∈ [x]; simp)
        refine m3.app (s := edt s'.1 s'.2 (.hand x q)) rfl (by rw [hlen, ← big_line]; omega) (fun Q qq => ((ed_tup (ds := [dV s'.1, dT (handE s'.1.1 s'.2 x q)]) (eda_cons (ed_ixT (d := dV s'.1) (ed_var rfl rl) (ed_int 0) rfl) (eda_cons (ed_call (d := dT (handE s'.1.1 s'.2 x q)) (eda_cons (ed_ixT (d := dV s'.1) (ed_var rfl rl) (ed_int 0) rfl) (eda_cons (ed_ixT (d := dT s'.2) (ed_var rfl rl) (ed_int 1) rfl) (eda_cons (ed_ixT (d := dS x) (ed_var rfl re) (ed_int 1) rfl) (eda_cons (ed_ixT (d := dS q) (ed_var rfl re) (ed_int 2) rfl) eda_nil)))) ⟨s'.1, s'.2, x, q, hx', rfl, rfl⟩) eda_nil)) (z3 (by show 2 ≤ 1000; decide))).is (by rw [g'.hand]; rfl)) H3 m3.st.fz (m3.st.ok tk) Q qq) fun B4 H4 sb4 m4 => ?_
        exact fin B4 H4 sb4 m4 _ fun vt5 B5 H5 sb5 r5 m5 => ⟨_, _, vt5, B5, rfl, (sb.trans sb4).trans sb5, r5, m5⟩
      · have m3 := m.step s3
        refine m3.app (s := edt s'.1 s'.2 e) rfl (by rw [hlen, ← big_line]; omega) (fun Q qq => (ed_call (eda_cons (ed_ixT (d := dV s'.1) (ed_var rfl rl) (ed_int 0) rfl) (eda_cons (ed_ixT (d := dT s'.2) (ed_var rfl rl) (ed_int 1) rfl) (eda_cons (ed_var rfl re) eda_nil))) ⟨s'.1, s'.2, e, hok.1, hok.2.1, hok.2.2.1, hok.2.2.2.1, hok.2.2.2.2, rfl, rfl⟩) H3 m3.st.fz (m3.st.ok tk) Q qq) fun B4 H4 sb4 m4 => ?_
        exact fin B4 H4 sb4 m4 _ fun vt5 B5 H5 sb5 r5 m5 => ⟨_, _, vt5, B5, rfl, (sb.trans sb4).trans sb5, r5, m5⟩
    rintro σ' H3 ⟨o7, o8, vt, B3, rfl, sb3, rt3, m3⟩
    rw [List.take_length] at rt3 m3
    obtain ⟨B4, sb4, f4, wf4, rp4, back4⟩ := m3.open
    refine sd_if (b := false) f4 (m3.st.ok tk) (et_not (a := true) (et_B (ed_callW (d := .bool true) wf4 rfl (eda_cons (ed_var rfl rp4) eda_nil) ⟨good Es hin hle, rfl, rfl⟩))) (fun z => by cases z) fun _ H4 s4 => ?_
    have m4 := back4 H4 s4
    have sbB3 : Sub B B3 := (sb1.trans s2.sub).trans sb3
    refine sd_forT (enc := fun n : Nat => .int n) (xs := ns) m4.st.fz (m4.st.ok tk) (ed_var rfl (Dp.sub sbB3 _ _ r3)) fun B5 H5 s5 => ?_
    refine ⟨fun i σ' H' => ∃ (o7 o8 o9 : Option V) (vt : V) (a : WA) (p : Addr) (E' : List Ed) (L : List Stt) (B' : Hp), σ' = [some v0, some v1, some v2, some v3, some (.ref a.x), some (.ref p), some vt, o7, o8, o9] ∧ Sub B5 B' ∧ E'.length + i = Es.length ∧ (∀ e ∈ E', EdIn ks e) ∧ Dp K B' vt (.tuple (E'.map dE)) ∧ Cs T K c.C B H p a L (s0 :: runE s0 E') E' B' H', ?_, ?_, ?_, ?_⟩
    · exact ⟨o7, o8, none, vt, a, p, Es, _, B5, rfl, Sub.refl _, rfl, hin, Dp.sub s5.sub _ _ rt3, m4.step s5⟩
    · rintro i σ' H' ⟨_, _, _, _, _, _, _, _, B', _, sb, _, _, _, m⟩
      exact m.st.fz.sub sb
    · rintro i n vn σ' H' hx rn ⟨o7, o8, o9, vt, a, p, E', L, B', rfl, sb, hl, hin', rt, m⟩
      cases rn
      have hn : n < E'.length := by have := hpl i n hx; omega
      have inE : ∀ e ∈ E'.eraseIdx n, EdIn ks e := fun e he => hin' e (List.mem_of_mem_eraseIdx he)
      have lenE : (E'.eraseIdx n).length + 1 = E'.length := by rw [List.length_eraseIdx_of_lt hn]; omega
      have sbB' : Sub B B' := (sbB3.trans s5.sub).trans sb
      refine sd_asg (K := K) (d := .tuple ((E'.eraseIdx n).map dE)) m.st.fz (m.st.ok tk) ((ed_catT (xs := (E'.map dE).take n) (ys := (E'.map dE).drop (n + 1)) ((ed_slT (lo := none) (hi := some (n : Int)) (ed_var rfl rt) (fun H Q => part_no H Q) (fun H Q => part_var rfl H Q)).is (by rw [cutD_take])) ((ed_slT (lo := some ((n : Int) + 1)) (hi := none) (ed_var rfl rt) (fun H Q => part_add rfl H Q) (fun H Q => part_no H Q)).is (by rw [show (some ((n : Int) + 1)) = some ((n + 1 : Nat) : Int) from rfl, cutD_drop])) (z3 (by rw [List.length_take, List.length_drop, List.length_map]; omega))).is (by rw [List.eraseIdx_eq_take_drop_succ, List.map_append, List.map_take, List.map_drop])) fun vt2 B6 H6 s6 rt6 => ?_
      have m6 := m.step s6
      refine m6.renew (s := s0) (m6.st.ok tk) (ed_tup (ds := [dV s0.1, dT s0.2]) (eda_cons (ed_var rfl (Dp.sub (sbB'.trans s6.sub) _ _ r0)) (eda_cons (ed_var rfl (Dp.sub (sbB'.trans s6.sub) _ _ r1)) eda_nil)) (z3 (by show 2 ≤ 1000; decide))) fun p2 B7 H7 sb7 m7 => ?_
      have rt7 := Dp.sub sb7 _ _ rt6
      refine sd_forT (enc := dE) (xs := E'.eraseIdx n) m7.st.fz (m7.st.ok tk) (ed_var rfl rt7) fun B8 H8 s8 => ?_
      refine ⟨fun i σ' H' => ∃ (o7 : Option V) (B' : Hp), σ' = [some v0, some v1, some v2, some v3, some (.ref a.x), some (.ref p2), some vt2, o7, o8, some (.int (n : Int))] ∧ Sub B8 B' ∧ Cs T K c.C B H p2 a (s0 :: runE s0 ((E'.eraseIdx n).take i)) (s0 :: runE s0 E') E' B' H', ?_, ?_, ?_, ?_⟩
      · exact ⟨o7, B8, rfl, Sub.refl _, m7.step s8⟩
      · rintro i σ' H' ⟨_, B', _, sb, m⟩
        exact m.st.fz.sub sb
      · rintro i e ve σ' H' hx re ⟨o7, B9, rfl, sb9, m9⟩
        have he : EdIn ks e := inE e (List.mem_of_getElem? hx)
        obtain ⟨s', hl', g'⟩ := lastOf ((E'.eraseIdx n).take i) fun e he => inE e (List.mem_of_mem_take he)
        have e1 := step (E'.eraseIdx n) i e s' hx hl'
        have hlen := runLen ((E'.eraseIdx n).take i)
        have ht9 : ((E'.eraseIdx n).take i).length ≤ 50 := by rw [List.length_take]; omega
        have hok := g'.edOk W he
        obtain ⟨vl, rl, rd⟩ := m9.lastRd (σ := [some v0, some v1, some v2, some v3, some (.ref a.x), some (.ref p2), some vt2, some ve, o8, some (.int (n : Int))]) (i := 5) rfl hl'
        obtain ⟨y0, ry0, rd0⟩ := rd_ixT (k := 0) (d := dV s'.1) m9.st.fz rl rd rfl
        obtain ⟨y1, ry1, rd1⟩ := rd_ixT (k := 1) (d := dT s'.2) m9.st.fz rl rd rfl
        refine m9.app (s := edt s'.1 s'.2 e) rfl (by rw [hlen, ← big_line]; omega) (fun Q qq => rd0 _ (rd1 _ ⟨ve, rfl, B9, [dV s'.1, dT s'.2, dE e], dSt (edt s'.1 s'.2 e), m9.st.fz, m9.st.ok tk, .cons ry0 (.cons ry1 (.cons (Dp.sub sb9 _ _ re) .nil)), ⟨s'.1, s'.2, e, hok.1, hok.2.1, hok.2.2.1, hok.2.2.2.1, hok.2.2.2.2, rfl, rfl⟩, fun v B2 H2 s r => qq v B2 H2 s r⟩)) fun B10 H10 sb10 m10 => ?_
        exact ⟨_, B10, rfl, sb9.trans sb10, by rw [e1]; exact m10⟩
      rintro σ' H9 ⟨o7, B9, rfl, sb9, m9⟩
      rw [List.take_length] at m9
      refine m9.back (n := n) (s := s0) (m9.st.ok tk) rfl (ed_var rfl (.int (n : Int))) rfl hn (by omega) (runE_good W _ s0 g0 inE).1 fun B10 H10 a' ex sb10 m10 => ?_
      obtain ⟨B11, sb11, f11, wf11, rp11, back11⟩ := m10.open
      have rt11 : Dp K B11 vt2 (.tuple ((E'.eraseIdx n).map dE)) := Dp.sub (((s8.sub.trans sb9).trans sb10).trans sb11) _ _ rt7
      have shT : SeqAt.shaped (.tuple ((E'.eraseIdx n).map dE)) = true := shaped_dEs fun e he => (inE e he).lay
      refine ((et_or (et_test ((ed_neD (K := K) (ed_prop wf11 (by rw [ex]; rfl) ⟨rfl, rfl⟩) (ed_var rfl rt11) shT shT).is (e := .bool false) (by rw [SeqAt.eqv_refl _ (lay_tup fun d hd => by obtain ⟨e, he, rfl⟩ := List.mem_map.mp hd; exact (inE e he).lay)]; rfl))) fun _ => et_not (a := true) (et_B (ed_callW (d := .bool true) wf11 (by rw [ex]; rfl) (eda_cons (ed_var rfl rp11) eda_nil) ⟨good _ inE (by omega), rfl, rfl⟩))) : ETT T _ _ B11 (false || !true)) H10 f11 (m10.st.ok tk) _ fun H11 s11 => ?_
      exact ⟨_, _, _, vt2, a', p2, E'.eraseIdx n, _, B10, by rw [ex], (((((sb.trans s6.sub).trans sb7).trans s8.sub).trans sb9)).trans sb10, by omega, inE, Dp.sub ((s8.sub.trans sb9).trans sb10) _ _ rt7, back11 H11 s11⟩
    rintro σ' H6 ⟨o7, o8, o9, vt, a, p, E', L, B6, rfl, sb6, hl, hin', rt6, m6⟩
    exact sd_ret (σ := start [] []) m6.st.fz (m6.st.ok tk) (ed_bl true) fun v' B' H' s' r' => q v' B' H' (m6.st.trans s') r'
end
end Vk

set_option Elab.async false
set_option linter.all false
set_option maxRecDepth 100000
namespace Vk
open PySem L2 StX
/-! sorting that the kernel can do -/
def ins {α : Type} (lt : α → α → Bool) (x : α) : List α → List α
  | [] => [x]
  | y :: l => if lt y x then y :: ins lt x l else x :: y :: l
def isrt {α : Type} (lt : α → α → Bool) : List α → List α
  | [] => []
  | x :: l => ins lt x (isrt lt l)
theorem ins_perm {α : Type} (lt : α → α → Bool) (x : α) : ∀ l : List α, (ins lt x l).Perm (x :: l)
  | [] => List.Perm.refl _
  | y :: l => by
    unfold ins
    split
    · exact ((ins_perm lt x l).cons y).trans (List.Perm.swap x y l)
    · exact List.Perm.refl _
theorem isrt_perm {α : Type} (lt : α → α → Bool) : ∀ l : List α, (isrt lt l).Perm l
  | [] => List.Perm.refl _
  | x :: l => (ins_perm lt x _).trans ((isrt_perm lt l).cons x)
theorem ins_pw {α : Type} {lt : α → α → Bool} (h : TO lt) (x : α) : ∀ l : List α, l.Pairwise (fun a b => leB lt a b = true) → (ins lt x l).Pairwise fun a b => leB lt a b = true
  | [], _ => List.pairwise_singleton _ _
  | y :: l, p => by
    unfold ins
    rw [List.pairwise_cons] at p
    split
    · rename_i hy
      rw [List.pairwise_cons]
      refine ⟨fun z hz => ?_, ins_pw h x l p.2⟩
      rcases List.mem_cons.mp ((ins_perm lt x l).mem_iff.mp hz) with rfl | hz
      · unfold leB; rw [h.asy hy]; rfl
      · exact p.1 z hz
    · rename_i hy
      have hxy : leB lt x y = true := by unfold leB; simp at hy; rw [hy]; rfl
      rw [List.pairwise_cons, List.pairwise_cons]
      refine ⟨fun z hz => ?_, p⟩
      rcases List.mem_cons.mp hz with rfl | hz
      · exact hxy
      · exact h.le_tr _ _ _ hxy (p.1 z hz)
theorem isrt_pw {α : Type} {lt : α → α → Bool} (h : TO lt) : ∀ l : List α, (isrt lt l).Pairwise fun a b => leB lt a b = true
  | [] => List.Pairwise.nil
  | x :: l => ins_pw h x _ (isrt_pw h l)
theorem srt_isrt {α : Type} {lt : α → α → Bool} (h : TO lt) : srt lt = isrt lt := by
  funext l
  rw [srt_uniq h (isrt_perm lt l).symm]
  exact List.mergeSort_of_pairwise (isrt_pw h l)
theorem us_fun {α : Type} [DecidableEq α] (lt : α → α → Bool) : us lt = fun l => srt lt (dd l) := rfl
theorem srt_s : srt sLt = isrt sLt := srt_isrt sLt_to
theorem srt_t : srt tLt = isrt tLt := srt_isrt tLt_to
theorem srt_z : srt zLt = isrt zLt := srt_isrt zLt_to
def hs1 : Stt := edt kitV kitH (.opens ["b"])
def hs2 : Stt := edt hs1.1 hs1.2 (.lost "c")
def hs3 : Stt := edt hs2.1 hs2.2 (.hand "a" "zoe")
theorem h3v : hs3.1 = (((["a", "b", "c"] : Ks), ([["b"]] : Kss)) : Vt) := by
  simp only [hs3, hs2, hs1, edt, leastV, least, us_fun, srt_s, srt_t, srt_z]
  decide +kernel
theorem h3h : hs3.2 = (["zoe","bob","ann"] : Ks) := by decide +kernel
theorem h3g : gthat hs3.1 kitH hs3.2 = [] := by
  rw [h3v, h3h]
  simp only [gthat, subs, least, us_fun, srt_s, srt_t, srt_z]
  decide +kernel
theorem h3n : newO kitV hs3.1 = ([["b"]] : Kss) := by rw [h3v]; decide +kernel
theorem h3l : newO hs3.1 kitV = ([["c"]] : Kss) := by rw [h3v]; decide +kernel
end Vk

set_option Elab.async false
set_option linter.all false
set_option maxRecDepth 100000
set_option maxHeartbeats 1000000
/-! The law by hand, from a box, whole (printed by pl6.py). -/
namespace Vk
open PySem L2 StX
open SlX (SlO Slt slH SCls Slot1 putS SlR)
section
variable {T : Tb} {K : PySem.W.Frag} {C : Addr} {σ : L2.St} {B H B' H' B1 H1 B2 H2 : Hp} {ta tb te : TE} {t : TA} {D : Ends} {i p : Nat} {d : PyData} {a : WA} {S : List Stt} {E : List Ed}
structure Ws (T : Tb) (K : PySem.W.Frag) (C : Addr) (B H : Hp) (a : WA) (S : List Stt) (E : List Ed) (B' H' : Hp) : Prop where
  st : St T B H B' H'
  nA : ∀ b ∈ a.ad, Nn H b
  w : Wt K C B' H' a S E
theorem Ws.step (m : Ws T K C B H a S E B1 H1) (s : St T B1 H1 B2 H2) : Ws T K C B H a S E B2 H2 := ⟨m.st.trans s, m.nA, m.w.step s⟩
theorem Ws.do {X : XK} {s : Stt} {e : Ed} {Q : VK} (m : Ws T K C B H a S E B1 H1) (tk : TOk T H1) (hv : σ[i]? = some (some (.ref a.x))) (ht : ED T K te σ B1 (dE e)) (hl : S.getLast? = some s) (ok : EdOk s.1 e) (l1 : S.length < 1000) (l2 : E.length < 1000)
    (k : ∀ B2 H2, Sub B1 B2 → Ws T K C B H a (S ++ [edt s.1 s.2 e]) (E ++ [e]) B2 H2 → Q .non H2) : SlX.tMethSl C (spDo T K C) X (tVar i) (tCons te tNil) σ H1 Q :=
  ⟨_, hv, a.x, a.dx, _, rfl, m.w.slt, ht H1 m.st.fz tk _ fun ve B2 H2 s1 r1 => ⟨B2, a, ve, S, E, s, e, rfl, s1.fz, s1.ok tk, (m.step s1).w, r1, hl, ok, l1, l2, fun B3 H3 s2 w2 => k B3 H3 (s1.sub.trans s2.sub) ⟨St.cutTrans (m.step s1).st m.nA (m.step s1).w.cuts s2, m.nA, w2⟩⟩⟩
theorem ed_rep3 : ED T K (tOp rRep (tLst (tCons (tC .non) tNil)) (tC (.int 3))) σ B (.list [.none, .none, .none]) := fun H f tk Q q =>
  ⟨len1, fun p n => ⟨p, 3, [.non], rfl, rfl, upd_same, by decide, by decide, by show 3 ≤ sizeLine; rw [← big_line]; decide, fun p2 n2 => by
    have s1 := St.work (T := T) (o := .lst [.non]) f n
    exact q (.ref p2) _ _ (s1.trans (St.laid (o := HO.lst [V.non, .non, .non]) s1.fz n2 noT_lst)) (Dp.newL (s1.fz.off n2) (.cons .non (.cons .non (.cons .non .nil))))⟩⟩
end
def esH : List Ed := [.opens ["b"], .hand "b" "zoe", .bars ["a", "c"], .swap "a" "b", .lost "c"]
theorem wks_kit : WKs kitV.1 := ⟨by unfold Up; decide +kernel, by decide, by decide +kernel⟩
theorem gs_kit : Gs kitV.1 (kitV, kitH) := ⟨⟨rfl, by unfold InK; decide +kernel, ⟨by decide +kernel, by decide, by decide⟩⟩, ⟨by unfold Up; decide +kernel, by unfold Up; decide +kernel, by decide +kernel⟩, ⟨by decide, by decide +kernel⟩⟩
theorem in_h1 : EdIn kitV.1 (.opens ["b"]) := ⟨by decide +kernel, by decide, by decide +kernel, fun _ z => by cases z⟩
theorem in_h2 : EdIn kitV.1 (.lost "c") := ⟨by decide +kernel, by decide, by decide +kernel, fun _ z => by cases z⟩
theorem in_h3 : EdIn kitV.1 (.hand "a" "zoe") := ⟨by decide +kernel, by decide, by decide +kernel, by decide +kernel⟩
theorem in_esH : ∀ e ∈ esH, EdIn kitV.1 e := fun e he => by
  unfold esH at he
  rcases List.mem_cons.mp he with rfl | he
  · exact in_h1
  rcases List.mem_cons.mp he with rfl | he
  · exact ⟨by decide +kernel, by decide, by decide +kernel, by decide +kernel⟩
  rcases List.mem_cons.mp he with rfl | he
  · exact ⟨by decide +kernel, by decide, by decide +kernel, fun _ z => by cases z⟩
  rcases List.mem_cons.mp he with rfl | he
  · exact ⟨by decide +kernel, by decide, by decide +kernel, fun _ z => by cases z⟩
  · rw [List.mem_singleton.mp he]; exact in_h2
theorem gs_h1 : Gs kitV.1 hs1 := gs_kit.edt wks_kit in_h1
theorem gs_h2 : Gs kitV.1 hs2 := gs_h1.edt wks_kit in_h2
theorem gs_h3 : Gs kitV.1 hs3 := gs_h2.edt wks_kit in_h3
theorem gop_h : gop hs3.1 hs3.2 ["bob"] = true := by rw [h3v, h3h]; decide +kernel
def dueH : List PyData := [.none, .none, .none, dTT [["b"]], dTT [["b"]], dTT [["c"]], dTT [["c"]], .bool true, dTT [], dT ["zoe", "bob", "ann"]]
theorem dueH_d : (PyData.list dueH).depth ≤ 4 := by decide +kernel
theorem dueH_l : (PyData.list dueH).canLay0 = true := by decide +kernel
def bobs : Ks := ["bob"]
theorem plH : ∀ i n, ([2, 0, 2] : List Nat)[i]? = some n → n + i < esH.length := by
  intro i n h
  match i, h with
  | 0, h => cases h; decide
  | 1, h => cases h; decide
  | 2, h => cases h; decide
  | i + 3, h => cases h
def A_hand (ds : List PyData) (d : PyData) : Prop := ds = [] ∧ d = .bool true
def A_right (ds : List PyData) (Pd : PyData → Prop) : Prop := ds = [] ∧ Pd = fun d => d = .bool true
def A_thelaw (ds : List PyData) (d : PyData) : Prop := ∃ scr : List Int, ds = [.list (scr.map .int)] ∧ d = .bool true
section
variable {T : Tb} {K : PySem.W.Frag} {l : Addr} {k n : Nat} {σ : L2.St} {B H : Hp} {te : TE} {t : TA} {A2 : List PyData → Prop} {D : Ends} {i : Nat}
theorem edx_callD {A : List PyData → PyData → Prop} {X : XK} {d : PyData} (h : EDAX T K l k t σ B A2) (hA : ∀ ds, A2 ds → A ds d) : EDX T K l k (tCall (spD T K A) [] X t) σ B (fun e => e = d) := fun n B1 H sb f tk b Q w =>
  h n B1 H sb f tk b _ fun vs ds B2 H2 a2 s r => ⟨B2, ds, d, s.st.fz, s.ok b tk, by rw [List.append_nil]; exact r, hA ds a2, fun v B3 H3 s3 r3 => w v d B3 H3 rfl (s.then s3) r3⟩
theorem sd_callN {A : List PyData → (PyData → Prop) → Prop} {X : XK} {ds : List PyData} {Pd : PyData → Prop} (f : Fz B H) (tk : TOk T H) (h : EDA T K t σ B ds) (hA : A ds Pd) (k : ∀ v d B' H', Pd d → St T B H B' H' → Dp K B' v d → D.nx (σ.set i (some v)) H') : tAsg (tCall (spN T K A) [] X t) (gName i) D σ H :=
  h H f tk _ fun vs B1 H1 s r => ⟨B1, ds, Pd, s.fz, s.ok tk, by rw [List.append_nil]; exact r, hA, fun v d B' H' p s' r' => k v d B' H' p (s.trans s') r'⟩
theorem sx_ifnot {tt u : TS} (f : Fz B H) (tk : TOk T H) (b : Bx l (n + k) B H) (h : EDX T K l k te σ B (fun e => e = .bool true)) (q : ∀ B' H', SB T l n B H B' H' → u D σ H') : tIfS (tNot (tB te)) tt u D σ H :=
  h n B H (Sub.refl B) f tk b _ fun v d B' H' a s r => by
    subst a
    cases r
    exact ⟨true, rfl, q B' H' s⟩
end
theorem edits_of {ks : Ks} : ∀ {ds : List PyData}, (∀ d ∈ ds, ∃ e, EdIn ks e ∧ d = dE e) → ∃ es : List Ed, es.length = ds.length ∧ (∀ e ∈ es, EdIn ks e) ∧ ds = es.map dE
  | [], _ => ⟨[], rfl, (fun _ h => by cases h), rfl⟩
  | d :: ds, hh => by
    obtain ⟨e, he, rfl⟩ := hh d List.mem_cons_self
    obtain ⟨es, h1, h2, h3⟩ := edits_of fun e he => hh e (List.mem_cons_of_mem _ he)
    exact ⟨e :: es, by rw [List.length_cons, h1]; rfl, fun y hy => (List.mem_cons.mp hy).elim (fun z => z ▸ he) (h2 y), by rw [h3]; rfl⟩
section
variable {P : Program} {w : World} {K : PySem.W.Frag} {mg : Str → Option Value} {base : Heap} {T : Tb}
theorem ok_law_by_hand_right (c : Code K mg) (G__law_kit : FnOk P w K mg base CX0 1 c._law_kit.f c._law_kit.fd [] (spD T K A_law_kit)) (G__law_case_right : FnOk P w K mg base CX0 10 c._law_case_right.f c._law_case_right.fd ["_law_vault_so", "_law_mine_so", "_law_edits_so", "_law_places_so"] (spD T K A_case)) (G_Watch_vault : FnOk P w K mg base CX0 1 c.Watch_vault.f c.Watch_vault.fd ["self"] (spX K c.C fun s => dV s.1)) (G_Watch_holders : FnOk P w K mg base CX0 1 c.Watch_holders.f c.Watch_holders.fd ["self"] (spX K c.C fun s => dT s.2)) (G_Watch_newly : FnOk P w K mg base CX0 4 c.Watch_newly.f c.Watch_newly.fd ["self"] (spW T K c.C A_newly)) (G_Watch_no_longer : FnOk P w K mg base CX0 4 c.Watch_no_longer.f c.Watch_no_longer.fd ["self"] (spW T K c.C A_no_longer)) (G_Watch_opened_by : FnOk P w K mg base CX0 4 c.Watch_opened_by.f c.Watch_opened_by.fd ["self", "people"] (spW T K c.C A_opened_by)) (G_Watch_init : FnOk P w K mg base CX0 5 c.Watch_init.f c.Watch_init.fd ["self", "vault", "holders"] (spInit T K c.C)) (G_Watch_do : FnOk P w K mg base CX0 8 c.Watch_do.f c.Watch_do.fd ["self", "edit"] (spDo T K c.C)) (G_new_openers : FnOk P w K mg base CX0 6 c.new_openers.f c.new_openers.fd ["vault", "other"] (spD T K A_new_openers)) (G_lost_openers : FnOk P w K mg base CX0 7 c.lost_openers.f c.lost_openers.fd ["vault", "other"] (spD T K A_lost_openers)) (G_new_groups : FnOk P w K mg base CX0 8 c.new_groups.f c.new_groups.fd ["vault", "holders", "later"] (spD T K A_groups_that)) (G__law_same : FnOk P w K mg base CX0 5 c._law_same.f c._law_same.fd ["_law_got", "_law_due"] (spD T K (A_same 4))) : FnOk P w K mg base CX0 11 c._law_by_hand_right.f c._law_by_hand_right.fd [] (spD T K A_hand) := by
  refine pure_ok c._law_by_hand_right.F sc__law_by_hand_right (fun ds d h => ?_) (fun cdv A' outer s H B vs ds d E hr f tk r hA => ?_)
  · obtain ⟨rfl, _⟩ := h; rfl
  · obtain ⟨rfl, rfl⟩ := hA
    cases r
    have hu := hr.u64
    have z3 : ∀ {n : Nat}, n ≤ 100 → n ≤ sizeLine := fun h => by rw [← big_line]; omega
    refine ⟨_, (pss_cons (ps_asg (pe_call0 G__law_kit (hr.mono (by decide)) (by rfl) c._law_kit.g c._law_kit.F.kp c._law_kit.b .nil pass0) (kTupTg (K := K) rfl rfl (pgs_cons (pg_name (i := 0) sc__law_by_hand_right.nd rfl (Or.inl rfl)) (pgs_cons (pg_name (i := 1) sc__law_by_hand_right.nd rfl (Or.inl rfl)) pgs_nil)))) (pss_cons (ps_set (i := 2) sc__law_by_hand_right.nd rfl (Or.inl rfl) (pe_make (E := E0) c.mkW G_Watch_init (hr.mono (by decide)) (by rfl) c.gC c.Watch_init.b .nil pass0 (pa_cons (pv 0) (pa_cons (pv 1) pa_nil)))) (pss_cons (ps_set (i := 3) sc__law_by_hand_right.nd rfl (Or.inl rfl) (pe_lst (pa_cons (SlX.pe_methSl (E := E0) (pv 2) c.cl c.me_do (fnr G_Watch_do c.Watch_do.b) (hr.mono (by decide)) pass0 (pa_cons (pe_tup (pa_cons pe_str (pa_cons (pe_tup (pa_cons pe_str pa_nil)) pa_nil))) pa_nil)) (pa_cons (SlX.pe_methSl (E := E0) (pv 2) c.cl c.me_do (fnr G_Watch_do c.Watch_do.b) (hr.mono (by decide)) pass0 (pa_cons (pe_tup (pa_cons pe_str (pa_cons pe_str pa_nil))) pa_nil)) (pa_cons (SlX.pe_methSl (E := E0) (pv 2) c.cl c.me_do (fnr G_Watch_do c.Watch_do.b) (hr.mono (by decide)) pass0 (pa_cons (pe_tup (pa_cons pe_str (pa_cons pe_str (pa_cons pe_str pa_nil)))) pa_nil)) pa_nil))))) (pss_cons (ps_set (i := 3) sc__law_by_hand_right.nd rfl (Or.inl rfl) (pe_op (kCatL (K := K) rfl) (pv 3) (pe_lst (pa_cons (SlX.pe_methSl0 (E := E0) (pv 2) c.cl c.me_newly (fnr G_Watch_newly c.Watch_newly.b) (hr.mono (by decide)) pass0) (pa_cons (pe_call G_new_openers (hr.mono (by decide)) (by rfl) c.new_openers.g c.new_openers.F.kp c.new_openers.b .nil pass0 (pa_cons (pv 0) (pa_cons (SlX.pe_propSl (E := E0) (pv 2) c.cl c.pr_vault.at_ c.pr_vault.get c.pr_vault.tk c.pr_vault.rc (fnr G_Watch_vault c.Watch_vault.b) (hr.mono (by decide)) (fun _ _ _ _ z => z)) pa_nil))) (pa_cons (SlX.pe_methSl0 (E := E0) (pv 2) c.cl c.me_no_longer (fnr G_Watch_no_longer c.Watch_no_longer.b) (hr.mono (by decide)) pass0) pa_nil)))))) (pss_cons (ps_set (i := 3) sc__law_by_hand_right.nd rfl (Or.inl rfl) (pe_op (kCatL (K := K) rfl) (pv 3) (pe_lst (pa_cons (pe_call G_lost_openers (hr.mono (by decide)) (by rfl) c.lost_openers.g c.lost_openers.F.kp c.lost_openers.b .nil pass0 (pa_cons (pv 0) (pa_cons (SlX.pe_propSl (E := E0) (pv 2) c.cl c.pr_vault.at_ c.pr_vault.get c.pr_vault.tk c.pr_vault.rc (fnr G_Watch_vault c.Watch_vault.b) (hr.mono (by decide)) (fun _ _ _ _ z => z)) pa_nil))) pa_nil)))) (pss_cons (ps_set (i := 3) sc__law_by_hand_right.nd rfl (Or.inl rfl) (pe_op (kCatL (K := K) rfl) (pv 3) (pe_lst (pa_cons (SlX.pe_methSl (E := E0) (pv 2) c.cl c.me_opened_by (fnr G_Watch_opened_by c.Watch_opened_by.b) (hr.mono (by decide)) pass0 (pa_cons (pe_tup (pa_cons pe_str pa_nil)) pa_nil)) (pa_cons (pe_call G_new_groups (hr.mono (by decide)) (by rfl) c.new_groups.g c.new_groups.F.kp c.new_groups.b .nil pass0 (pa_cons (SlX.pe_propSl (E := E0) (pv 2) c.cl c.pr_vault.at_ c.pr_vault.get c.pr_vault.tk c.pr_vault.rc (fnr G_Watch_vault c.Watch_vault.b) (hr.mono (by decide)) (fun _ _ _ _ z => z)) (pa_cons (pv 1) (pa_cons (SlX.pe_propSl (E := E0) (pv 2) c.cl c.pr_holders.at_ c.pr_holders.get c.pr_holders.tk c.pr_holders.rc (fnr G_Watch_holders c.Watch_holders.b) (hr.mono (by decide)) (fun _ _ _ _ z => z)) pa_nil)))) (pa_cons (SlX.pe_propSl (E := E0) (pv 2) c.cl c.pr_holders.at_ c.pr_holders.get c.pr_holders.tk c.pr_holders.rc (fnr G_Watch_holders c.Watch_holders.b) (hr.mono (by decide)) (fun _ _ _ _ z => z)) pa_nil)))))) (pss_cons (ps_set (i := 4) sc__law_by_hand_right.nd rfl (Or.inl rfl) (pe_op (kCatL (K := K) rfl) (pe_op op_rep (pe_lst (pa_cons pe_non pa_nil)) pe_int) (pe_lst (pa_cons (pe_tup (pa_cons (pe_tup (pa_cons pe_str pa_nil)) pa_nil)) (pa_cons (pe_tup (pa_cons (pe_tup (pa_cons pe_str pa_nil)) pa_nil)) (pa_cons (pe_tup (pa_cons (pe_tup (pa_cons pe_str pa_nil)) pa_nil)) (pa_cons (pe_tup (pa_cons (pe_tup (pa_cons pe_str pa_nil)) pa_nil)) (pa_cons pe_bl (pa_cons (pe_tup pa_nil) (pa_cons (pe_tup (pa_cons pe_str (pa_cons pe_str (pa_cons pe_str pa_nil)))) pa_nil)))))))))) (pss_cons (ps_if (pt_not (pt_val (pe_call G__law_same (hr.mono (by decide)) (by rfl) c._law_same.g c._law_same.F.kp c._law_same.b .nil pass0 (pa_cons (pv 3) (pa_cons (pv 4) pa_nil))))) (pss_one (ps_ret pe_bl)) pss_nil) (pss_cons (ps_set (i := 5) sc__law_by_hand_right.nd rfl (Or.inl rfl) (pe_tup (pa_cons (pe_tup (pa_cons pe_str (pa_cons (pe_tup (pa_cons pe_str pa_nil)) pa_nil))) (pa_cons (pe_tup (pa_cons pe_str (pa_cons pe_str (pa_cons pe_str pa_nil)))) (pa_cons (pe_tup (pa_cons pe_str (pa_cons (pe_tup (pa_cons pe_str (pa_cons pe_str pa_nil))) pa_nil))) (pa_cons (pe_tup (pa_cons pe_str (pa_cons pe_str (pa_cons pe_str pa_nil)))) (pa_cons (pe_tup (pa_cons pe_str (pa_cons pe_str pa_nil))) pa_nil))))))) (pss_one (ps_ret (pe_call G__law_case_right (hr.mono (by decide)) (by rfl) c._law_case_right.g c._law_case_right.F.kp c._law_case_right.b .nil pass0 (pa_cons (pv 0) (pa_cons (pv 1) (pa_cons (pv 5) (pa_cons (pe_tup (pa_cons pe_int (pa_cons pe_int (pa_cons pe_int pa_nil)))) pa_nil)))))))))))))))), fun D q => ?_⟩
    refine sd_asg2 (K := K) (d := dV kitV) (e := dT kitH) f tk (ed_call eda_nil ⟨rfl, rfl⟩) fun v0 v1 B1 H1 s1 r0 r1 => ?_
    refine sd_make (C := c.C) (vt := kitV) (hs := kitH) s1.fz (s1.ok tk) (eda_cons (ed_var rfl r0) (eda_cons (ed_var rfl r1) eda_nil)) fun B2 H2 B3 H3 a s2 n1 n2 s3 wt m1 m2 => ?_
    have hA : ∀ b ∈ a.ad, Nn H2 b := fun b hb => by
      unfold WA.ad at hb
      rcases List.mem_cons.mp hb with rfl | hb
      · exact Nn.of n1
      rcases List.mem_cons.mp hb with rfl | hb
      · exact Nn.of n2
      rcases List.mem_cons.mp hb with rfl | hb
      · exact m1
      · rw [List.mem_singleton.mp hb]; exact m2
    have s12 := s1.trans s2
    have tk2 := s12.ok tk
    have w3 : Ws T K c.C B2 H2 a [(kitV, kitH)] [] B3 H3 := ⟨s3, hA, wt⟩
    have asg : ∀ (p : Addr) (H' : Hp), True := fun _ _ => trivial
    refine w3.do (w3.st.ok tk2) rfl (ed_tup (eda_cons (ed_str "opens") (eda_cons (ed_tup (eda_cons (ed_str "b") eda_nil) (z3 (by decide))) eda_nil)) (z3 (by decide))) rfl (gs_kit.edOk wks_kit in_h1) (by decide) (by decide) fun B4 H4 sb4 w4 => ?_
    refine w4.do (s := hs1) (w4.st.ok tk2) rfl (ed_tup (eda_cons (ed_str "lost") (eda_cons (ed_str "c") eda_nil)) (z3 (by decide))) rfl (gs_h1.edOk wks_kit in_h2) (by decide) (by decide) fun B5 H5 sb5 w5 => ?_
    refine w5.do (s := hs2) (w5.st.ok tk2) rfl (ed_tup (eda_cons (ed_str "hand") (eda_cons (ed_str "a") (eda_cons (ed_str "zoe") eda_nil))) (z3 (by decide))) rfl (gs_h2.edOk wks_kit in_h3) (by decide) (by decide) fun B6 H6 sb6 w6 => ⟨z3 (by show 3 ≤ 100; decide), fun p np => ?_⟩
    have sl := St.laid (T := T) w6.st.fz np (noT_lst (xs := [V.non, .non, .non]))
    have w7 := w6.step sl
    have rg0 : Dp K (upd B6 p (.lst [V.non, .non, .non])) (.ref p) (.list [.none, .none, .none]) := Dp.newL (w6.st.fz.off np) (.cons .non (.cons .non (.cons .non .nil)))
    obtain ⟨B8, sb8, f8, wf8, _⟩ := w7.w.open (T := T) w7.st.fz
    have hlast : (([(kitV, kitH)] ++ [edt kitV kitH (.opens ["b"])]) ++ [edt hs1.1 hs1.2 (.lost "c")] ++ [edt hs2.1 hs2.2 (.hand "a" "zoe")]).getLast? = some hs3 := rfl
    have sub37 : Sub B3 B8 := (((sb4.trans sb5).trans sb6).trans sl.sub).trans sb8
    have sub8 : Sub B B8 := (s12.sub.trans s3.sub).trans sub37
    have r08 : Dp K B8 v0 (dV kitV) := Dp.sub ((s2.sub.trans s3.sub).trans sub37) _ _ r0
    have r18 : Dp K B8 v1 (dT kitH) := Dp.sub ((s2.sub.trans s3.sub).trans sub37) _ _ r1
    have rg8 := Dp.sub sb8 _ _ rg0
    have tk7 := w7.st.ok tk2
    have sm7 : Sm T H _ := (s12.trans w7.st).sm
    generalize hH : upd H6 p (.lst [V.non, .non, .non]) = H7 at f8 tk7 sm7
    have ik1 : InK kitV.1 hs3.1.2 := gs_h3.v.i
    have ik2 : InK hs3.1.1 kitV.2 := gs_h3.v.k.symm ▸ gs_kit.v.i
    have nwN : ∀ E, A_newly _ E [] (dTT [["b"]]) := fun E => ⟨(kitV, kitH), hs3, _, rfl, hlast, ik1, rfl, by rw [h3n]⟩
    have nwL : ∀ E, A_no_longer _ E [] (dTT [["c"]]) := fun E => ⟨(kitV, kitH), hs3, _, rfl, hlast, ik2, rfl, by rw [h3l]⟩
    refine sd_asg (K := K) (d := .list [.none, .none, .none, dTT [["b"]], dTT [["b"]], dTT [["c"]]]) f8 tk7 (ed_catL (xs := [.none, .none, .none]) (ys := [dTT [["b"]], dTT [["b"]], dTT [["c"]]]) (ed_var rfl rg8) (ed_lst (eda_cons (ed_meth wf8 rfl eda_nil (nwN _)) (eda_cons (ed_call (eda_cons (ed_var rfl r08) (eda_cons (ed_last (g := fun s => dV s.1) wf8 rfl hlast) eda_nil)) ⟨kitV, hs3.1, gs_h3.v.k, wks_kit.nm, rfl, by rw [h3n]⟩) (eda_cons (ed_meth wf8 rfl eda_nil (nwL _)) eda_nil))) (z3 (by show 3 ≤ 100; decide))) (z3 (by show 6 ≤ 100; decide))) fun vg B9 H9 s9 rg9 => ?_
    refine sd_asg (K := K) (d := .list [.none, .none, .none, dTT [["b"]], dTT [["b"]], dTT [["c"]], dTT [["c"]]]) s9.fz (s9.ok tk7) (ed_catL (xs := [.none, .none, .none, dTT [["b"]], dTT [["b"]], dTT [["c"]]]) (ys := [dTT [["c"]]]) (ed_var rfl rg9) (ed_lst (eda_cons (ed_call (eda_cons (ed_var rfl (Dp.sub s9.sub _ _ r08)) (eda_cons (ed_last (g := fun s => dV s.1) (wf8.sub s9.sub) rfl hlast) eda_nil)) ⟨kitV, hs3.1, gs_h3.v.k, wks_kit.nm, rfl, by rw [h3l]⟩) eda_nil) len1) (z3 (by show 7 ≤ 100; decide))) fun vg B10 H10 s10 rg10 => ?_
    have s910 := s9.trans s10
    have gh3 : (us sLt (kitH ++ hs3.2)).length ≤ 5 := us_folk fun x hx => (List.mem_append.mp hx).elim (gs_kit.h.2 x) (gs_h3.h.2 x)
    refine sd_asg (K := K) (d := .list dueH) s10.fz (s910.ok tk7) (ed_catL (xs := [.none, .none, .none, dTT [["b"]], dTT [["b"]], dTT [["c"]], dTT [["c"]]]) (ys := [.bool true, dTT [], dT ["zoe", "bob", "ann"]]) (ed_var rfl rg10) (ed_lst (eda_cons (ed_meth (wf8.sub s910.sub) rfl (eda_cons (ed_tup (eda_cons (ed_str "bob") eda_nil) (z3 (by decide))) eda_nil) ⟨hs3, bobs, hlast, rfl, by unfold bobs; rw [gop_h]⟩) (eda_cons (ed_call (eda_cons (ed_last (g := fun s => dV s.1) (wf8.sub s910.sub) rfl hlast) (eda_cons (ed_var rfl (Dp.sub s910.sub _ _ r18)) (eda_cons (ed_last (g := fun s => dT s.2) (wf8.sub s910.sub) rfl hlast) eda_nil))) ⟨hs3.1, kitH, hs3.2, by decide, Nat.le_trans gs_h3.h.1 (by decide), gh3, rfl, by rw [h3g]⟩) (eda_cons ((ed_last (g := fun s => dT s.2) (wf8.sub s910.sub) rfl hlast).is (by rw [h3h])) eda_nil))) (z3 (by show 3 ≤ 100; decide))) (z3 (by show 10 ≤ 100; decide))) fun vg B11 H11 s11 rg11 => ?_
    have s811 := s910.trans s11
    refine sd_asg (K := K) (d := .list dueH) s11.fz (s811.ok tk7) (ed_catL (xs := [.none, .none, .none]) (ys := [dTT [["b"]], dTT [["b"]], dTT [["c"]], dTT [["c"]], .bool true, dTT [], dT ["zoe", "bob", "ann"]]) ed_rep3 (ed_lst (eda_cons (ed_tup (eda_cons (ed_tup (eda_cons (ed_str "b") eda_nil) (z3 (by decide))) eda_nil) (z3 (by decide))) (eda_cons (ed_tup (eda_cons (ed_tup (eda_cons (ed_str "b") eda_nil) (z3 (by decide))) eda_nil) (z3 (by decide))) (eda_cons (ed_tup (eda_cons (ed_tup (eda_cons (ed_str "c") eda_nil) (z3 (by decide))) eda_nil) (z3 (by decide))) (eda_cons (ed_tup (eda_cons (ed_tup (eda_cons (ed_str "c") eda_nil) (z3 (by decide))) eda_nil) (z3 (by decide))) (eda_cons (ed_bl true) (eda_cons (ed_tup (eda_nil (K := K)) (Nat.zero_le _)) (eda_cons (ed_tup (eda_cons (ed_str "zoe") (eda_cons (ed_str "bob") (eda_cons (ed_str "ann") eda_nil))) (z3 (by decide))) eda_nil))))))) (z3 (by show 7 ≤ 100; decide))) (z3 (by show 10 ≤ 100; decide))) fun vd B12 H12 s12' rd12 => ?_
    have s812 := s811.trans s12'
    refine sd_if (b := false) s12'.fz (s812.ok tk7) (et_not (a := true) (et_B (ed_call (d := .bool true) (eda_cons (ed_var rfl (Dp.sub s12'.sub _ _ rg11)) (eda_cons (ed_var rfl rd12) eda_nil)) ⟨.list dueH, dueH_d, dueH_l, rfl, rfl⟩))) (fun z => by cases z) fun _ H13 s13 => ?_
    have s813 := s812.trans s13
    refine sd_asg (K := K) (d := .tuple (esH.map dE)) s13.fz (s813.ok tk7) (ed_tup (eda_cons (ed_tup (eda_cons (ed_str "opens") (eda_cons (ed_tup (eda_cons (ed_str "b") eda_nil) (z3 (by decide))) eda_nil)) (z3 (by decide))) (eda_cons (ed_tup (eda_cons (ed_str "hand") (eda_cons (ed_str "b") (eda_cons (ed_str "zoe") eda_nil))) (z3 (by decide))) (eda_cons (ed_tup (eda_cons (ed_str "bars") (eda_cons (ed_tup (eda_cons (ed_str "a") (eda_cons (ed_str "c") eda_nil)) (z3 (by decide))) eda_nil)) (z3 (by decide))) (eda_cons (ed_tup (eda_cons (ed_str "swap") (eda_cons (ed_str "a") (eda_cons (ed_str "b") eda_nil))) (z3 (by decide))) (eda_cons (ed_tup (eda_cons (ed_str "lost") (eda_cons (ed_str "c") eda_nil)) (z3 (by decide))) eda_nil))))) (z3 (by decide))) fun ve B14 H14 s14 re14 => ?_
    have s814 := s813.trans s14
    refine sd_ret s14.fz (s814.ok tk7) (ed_call (d := .bool true) (eda_cons (ed_var rfl (Dp.sub s814.sub _ _ r08)) (eda_cons (ed_var rfl (Dp.sub s814.sub _ _ r18)) (eda_cons (ed_var rfl re14) (eda_cons (ed_tup (eda_cons (ed_int 2) (eda_cons (ed_int 0) (eda_cons (ed_int 2) eda_nil))) (z3 (by decide))) eda_nil)))) ⟨kitV.1, (kitV, kitH), esH, [2, 0, 2], wks_kit, gs_kit, in_esH, by decide, plH, rfl, rfl⟩) fun v' B' H' s' r' => q v' B H' ⟨sm7.trans (s814.trans s').sm, Sub.refl B, Fz.sub (sub8.trans (s814.trans s').sub) s'.fz, fun _ _ h _ _ => h⟩ (dp_blB r')
end
end Vk

set_option Elab.async false
set_option linter.all false
set_option maxRecDepth 100000
set_option maxHeartbeats 1000000
/-! The law from a box; the law (printed by pl7.py). -/
namespace Vk
open PySem L2 StX
theorem ones_of {ds : List PyData} (h : ds.length = 1) (hh : ∀ d ∈ ds, d = .bool true) : ds = [true].map PyData.bool := by
  cases ds with
  | nil => cases h
  | cons d ds =>
    cases ds with
    | nil => rw [hh d List.mem_cons_self]; rfl
    | cons e es => cases h
theorem pl_of {n1 n2 L : Nat} (hL : L = 5) (h1 : n1 < 5) (h2 : n2 < 4) : ∀ i n, ([n1, n2] : List Nat)[i]? = some n → n + i < L := by
  intro i n h
  match i, h with
  | 0, h => cases h; omega
  | 1, h => cases h; omega
  | i + 2, h => cases h
section
variable {P : Program} {w : World} {K : PySem.W.Frag} {mg : Str → Option Value} {base : Heap} {T : Tb}
theorem ok_law_right (c : Code K mg) (G__law_names : FnOk P w K mg base CX0 3 c._law_names.f c._law_names.fd ["_law_box_here", "_law_count_so"] (spB T K 4 A_law_names)) (G__law_edit : FnOk P w K mg base CX0 3 c._law_edit.f c._law_edit.fd ["_law_box_here", "_law_names_so"] (spB T K 7 A_law_edit)) (G__law_take : FnOk P w K mg base CX0 1 c._law_take.f c._law_take.fd ["_law_box_here", "_law_top_so"] (spTake T K)) (G__law_vault : FnOk P w K mg base CX0 2 c._law_vault.f c._law_vault.fd ["_law_box_here", "_law_names_so", "_law_most_so"] (spB T K 17 A_law_vault)) (G__law_holders : FnOk P w K mg base CX0 3 c._law_holders.f c._law_holders.fd ["_law_box_here", "_law_names_so"] (spB T K 4 A_law_holders)) (G__law_case_right : FnOk P w K mg base CX0 10 c._law_case_right.f c._law_case_right.fd ["_law_vault_so", "_law_mine_so", "_law_edits_so", "_law_places_so"] (spD T K A_case)) : FnOk P w K mg base CX0 11 c._law_right.f c._law_right.fd ["_law_box_here"] (spB T K 62 A_right) := by
  refine box_ok c._law_right.F sc__law_right (fun ds d h => ?_) (fun cdv A' outer s H B l n us ds Pd E hr f tk b r hA => ?_)
  · obtain ⟨rfl, _⟩ := h; rfl
  · obtain ⟨rfl, rfl⟩ := hA
    cases r
    refine ⟨_, (pss_cons (ps_set (i := 1) sc__law_right.nd rfl (Or.inr rfl) (pe_call G__law_names (hr.mono (by decide)) (by rfl) c._law_names.g c._law_names.F.kp c._law_names.b .nil pass0 (pa_cons (pv 0) (pa_cons pe_int pa_nil)))) (pss_cons (ps_set (i := 2) sc__law_right.nd rfl (Or.inl rfl) (pe_callTy (kTuple (K := K) rfl) (by rfl) c.m_tuple (by decide +kernel) (pa_cons (pe_lc (own := [("_law_turn", 4)]) (g := gName 4) (tt := tYes) rfl sc__law_right.nd (pi_range1 (by rfl) c.m_range (pa_cons pe_int pa_nil)) (blkOk_by (N := ["_law_box_here", "_law_names_so", "_law_edits_so", "_law_places_so", "_law_turn"]) (sc := defScope s__law_right) (by decide +kernel)) (fun _ _ _ _ _ => pg_name (i := 4) sc__law_right.nd rfl (Or.inl rfl)) (fun _ _ _ _ _ => pts_nil) (fun _ _ _ _ _ => (pe_call G__law_edit (hr.mono (by decide)) (by rfl) c._law_edit.g c._law_edit.F.kp c._law_edit.b .nil pass0 (pa_cons (pv 0) (pa_cons (pv 1) pa_nil))))) pa_nil))) (pss_cons (ps_set (i := 3) sc__law_right.nd rfl (Or.inl rfl) (pe_tup (pa_cons (pe_call G__law_take (hr.mono (by decide)) (by rfl) c._law_take.g c._law_take.F.kp c._law_take.b .nil pass0 (pa_cons (pv 0) (pa_cons pe_int pa_nil))) (pa_cons (pe_call G__law_take (hr.mono (by decide)) (by rfl) c._law_take.g c._law_take.F.kp c._law_take.b .nil pass0 (pa_cons (pv 0) (pa_cons pe_int pa_nil))) pa_nil)))) (pss_one (ps_ret (pe_call G__law_case_right (hr.mono (by decide)) (by rfl) c._law_case_right.g c._law_case_right.F.kp c._law_case_right.b .nil pass0 (pa_cons (pe_call G__law_vault (hr.mono (by decide)) (by rfl) c._law_vault.g c._law_vault.F.kp c._law_vault.b .nil pass0 (pa_cons (pv 0) (pa_cons (pv 1) (pa_cons pe_int pa_nil)))) (pa_cons (pe_call G__law_holders (hr.mono (by decide)) (by rfl) c._law_holders.g c._law_holders.F.kp c._law_holders.b .nil pass0 (pa_cons (pv 0) (pa_cons (pv 1) pa_nil))) (pa_cons (pv 2) (pa_cons (pv 3) pa_nil)))))))))), fun Q q => ?_⟩
    refine sx_asg (K := K) (k := 4) (n := n + 58) f tk b (edx_call (ds := [.int 4]) rfl (eda_cons (ed_int 4) eda_nil) ⟨rfl, rfl⟩) fun v1 d1 B1 H1 ⟨ks, W, h4, e1⟩ s1 r1 => ?_
    subst e1
    have tk1 := s1.ok b tk
    refine sx_asg (K := K) (i := 2) (k := 7 * 5) (n := n + 23) (te := tCB (rTupOf K) (tCons (tLc (iRng1 (tCons (tC (.int 5)) tNil)) (gName 4) tYes (tCall (spB T K 7 A_law_edit) [] E0 (tCons (tVar 0) (tCons (tVar 1) tNil))) [4]) tNil)) (A := fun d => ∃ ds, (ds.length = 5 ∧ ∀ d ∈ ds, ∃ e, EdIn ks e ∧ d = dE e) ∧ d = .tuple ds) s1.st.fz tk1 s1.bx ?_ fun v2 d2 B2 H2 ⟨ds2, ⟨h5, hds⟩, e2⟩ s2 r2 => ?_
    · exact edx_tupleOf (A2 := fun ds => ds.length = 5 ∧ ∀ d ∈ ds, ∃ e, EdIn ks e ∧ d = dE e) (edx_mapR (k := 7) (N := 5) (fun H R r => ⟨5, rfl, by decide, by decide, r⟩) (by decide) (fun _ => rfl) fun v B2 sb => edx_call (ds := [dT ks]) rfl (eda_cons (ed_var rfl (Dp.sub sb _ _ r1)) eda_nil) ⟨ks, W, h4, rfl, rfl⟩)
    obtain ⟨es, l1, l2, rfl⟩ := edits_of hds
    subst e2
    have s12 := s1.trans s2
    have l1 : es.length = 5 := by rw [l1, h5]
    refine sx_asg (K := K) (k := 1 + (1 + 0)) (n := n + 21) s2.st.fz (s12.ok b tk) s12.bx (edx_tup (edax_cons (edx_take (top := 5) rfl (ed_int 5) (by decide) (by decide)) (edax_cons (edx_take (top := 4) rfl (ed_int 4) (by decide) (by decide)) edax_nil)) fun ds ⟨d, es, g1, g2, d2, es2, g3, g4, g5⟩ => by rw [g1, g3, g5, ← big_line]; show 2 ≤ _; decide) fun v3 d3 B3 H3 ⟨ds3, ⟨d, es3, g1, ⟨n1, hn1, g2⟩, d2, es2, g3, ⟨n2, hn2, g4⟩, g5⟩, e3⟩ s3 r3 => ?_
    subst e3 g1 g3 g2 g4 g5
    have s13 := s12.trans s3
    have r1' := Dp.sub (s2.st.sub.trans s3.st.sub) _ _ r1
    have r2' := Dp.sub s3.st.sub _ _ r2
    refine sx_ret (K := K) (k := 17 + (4 + 0)) (n := n) s3.st.fz (s13.ok b tk) s13.bx (edx_callD (A := A_case) (d := .bool true) (edax_cons (A := fun d => ∃ L : Kss, (∀ k ∈ L, k.Sublist ks) ∧ d = dV (ks, lawLeast L)) (edx_call (ds := [dT ks, .int 4]) rfl (eda_cons (ed_var rfl r1') (eda_cons (ed_int 4) eda_nil)) ⟨ks, W, h4, rfl, rfl⟩) (edax_cons (A := fun d => ∃ h : Ks, h.length = 4 ∧ (∀ x ∈ h, x ∈ ppl) ∧ d = dT h) (edx_call (ds := [dT ks]) rfl (eda_cons (ed_var rfl r1') eda_nil) ⟨ks, h4, rfl, rfl⟩) (edax_of (A := fun ds => ds = [.tuple (es.map dE), .tuple [.int n1, .int n2]]) (eda_cons (ed_var rfl r2') (eda_cons (ed_var rfl r3) eda_nil)) rfl))) fun ds ⟨d, ds', g1, ⟨LL, hL, g2⟩, d', ds'', g3, ⟨hh, hl, hp, g4⟩, g5⟩ => ?_) fun v' d' B' H' hd s' r' => q v' d' B' H' hd (s13.trans s') r'
    subst g1 g2 g3 g4 g5
    exact ⟨ks, ((ks, lawLeast LL), hh), es, [n1, n2], W, gs_law W hL ⟨by omega, fun x hx => ppl_folk x (hp x hx)⟩, l2, by omega, pl_of l1 (by omega) (by omega), rfl, rfl⟩
theorem ok_law (c : Code K mg) (G__law_by_hand_right : FnOk P w K mg base CX0 11 c._law_by_hand_right.f c._law_by_hand_right.fd [] (spD T K A_hand)) (G__law_cells : FnOk P w K mg base CX0 1 c._law_cells.f c._law_cells.fd ["_law_script", "_law_top_so"] (spN T K A_law_cells)) (G__law_box : FnOk P w K mg base CX0 1 c._law_box.f c._law_box.fd ["_law_script", "_law_k"] (spBox T K)) (G__law_right : FnOk P w K mg base CX0 11 c._law_right.f c._law_right.fd ["_law_box_here"] (spB T K 62 A_right)) : FnOk P w K mg base CX0 12 c.law.f c.law.fd ["_law_script"] (spD T K A_thelaw) := by
  refine pure_ok c.law.F sc_law (fun ds d h => ?_) (fun cdv A' outer s H B vs ds d E hr f tk r hA => ?_)
  · obtain ⟨_, rfl, _⟩ := h; rfl
  · obtain ⟨scr, rfl, rfl⟩ := hA
    obtain ⟨u, rfl, ru⟩ := dpAll1 r
    refine ⟨_, (pss_cons (ps_if (pt_not (pt_val (pe_call0 G__law_by_hand_right (hr.mono (by decide)) (by rfl) c._law_by_hand_right.g c._law_by_hand_right.F.kp c._law_by_hand_right.b .nil pass0))) (pss_one (ps_ret pe_bl)) pss_nil) (pss_cons (ps_set (i := 1) sc_law.nd rfl (Or.inl rfl) (pe_call G__law_cells (hr.mono (by decide)) (by rfl) c._law_cells.g c._law_cells.F.kp c._law_cells.b .nil pass0 (pa_cons (pv 0) (pa_cons pe_int pa_nil)))) (pss_cons (ps_for PassesOwn.never rfl (pi_range1 (by rfl) c.m_range (pa_cons (pe_callB (kLen (K := K) rfl) (by rfl) c.m_len (by decide +kernel) (pa_cons (pv 1) pa_nil)) pa_nil)) (pg_name (i := 2) sc_law.nd rfl (Or.inl rfl)) (pss_cons (ps_set (i := 3) sc_law.nd rfl (Or.inr rfl) (pe_call G__law_box (hr.mono (by decide)) (by rfl) c._law_box.g c._law_box.F.kp c._law_box.b .nil pass0 (pa_cons (pv 1) (pa_cons (pv 2) pa_nil)))) (pss_one (ps_if (pt_not (pt_val (pe_callB (kAll (K := K) rfl rfl) (by rfl) c.m_all (by decide +kernel) (pa_cons (pe_lc (own := [("_law_turn", 4)]) (g := gName 4) (tt := tYes) rfl sc_law.nd (pi_range1 (by rfl) c.m_range (pa_cons pe_int pa_nil)) (blkOk_by (N := ["_law_script", "_law_cells_here", "_law_k", "_law_box_here", "_law_turn"]) (sc := defScope s_law) (by decide +kernel)) (fun _ _ _ _ _ => pg_name (i := 4) sc_law.nd rfl (Or.inl rfl)) (fun _ _ _ _ _ => pts_nil) (fun _ _ _ _ _ => (pe_call G__law_right (hr.mono (by decide)) (by rfl) c._law_right.g c._law_right.F.kp c._law_right.b .nil pass0 (pa_cons (pv 3) pa_nil)))) pa_nil)))) (pss_one (ps_ret pe_bl)) pss_nil)))) (pss_one (ps_ret pe_bl))))), fun D q => ?_⟩
    refine sd_if (b := false) f tk (et_not (a := true) (et_B (ed_call (d := .bool true) eda_nil ⟨rfl, rfl⟩))) (fun z => by cases z) fun _ H1 s1 => ?_
    refine sd_callN s1.fz (s1.ok tk) (eda_cons (ed_var rfl ru) (eda_cons (ed_int 3) eda_nil)) ⟨scr, rfl, rfl⟩ fun v1 d1 B2 H2 ⟨bs, hb3, e1⟩ s2 r2 => ?_
    subst e1
    have s12 := s1.trans s2
    refine ed_len (ds := bs.map .int) (ed_var (i := 1) rfl r2) (.inl rfl) H2 s2.fz (s12.ok tk) _ fun vl B3 H3 s3 rl => ?_
    cases rl
    rw [List.length_map]
    have s13 := s12.trans s3
    refine ⟨(bs.length : Int), rfl, by omega, by omega, ?_⟩
    rw [Int.toNat_natCast]
    refine for_it (walk_range (lo := 0) (n := bs.length)) (fun i σ' H' => ∃ (o2 o3 o4 : Option V) (B' : Hp), σ' = [some u, some v1, o2, o3, o4] ∧ Sub B3 B' ∧ St T B H B' H') ?_ (fun _ _ _ _ _ => trivial) ?_ ?_
    · exact ⟨none, none, none, B3, rfl, Sub.refl _, s13⟩
    · rintro i x σ' H' H'' hi ⟨o2, o3, o4, B', rfl, sb, s⟩ ⟨rfl, rfl⟩
      have tk' := s.ok tk
      have r2' := Dp.sub (s3.sub.trans sb) _ _ r2
      refine ⟨v1, rfl, .int (0 + (i : Int)), rfl, B', v1, bs, i, by rw [Int.zero_add]; rfl, s.fz, tk', r2', hi, by omega, fun p B4 Hx cs s4 n4 b4 hbo => ?_⟩
      have f5 : Fz B4 (upd Hx p (.lst (cs.map V.int))) := s4.fz.laid b4
      have tkx := s4.ok tk'
      have tk5 : TOk T (upd Hx p (.lst (cs.map V.int))) := (Sm.laid n4).tab tkx
      have bx5 : Bx p (1000000 - 62 + 62 * 1) B4 (upd Hx p (.lst (cs.map V.int))) := ⟨b4, cs, hbo, upd_same⟩
      refine sx_ifnot (K := K) (l := p) (k := 62 * 1) (n := 1000000 - 62) (te := tCB (rAll K) (tCons (tLc (iRng1 (tCons (tC (.int 1)) tNil)) (gName 4) tYes (tCall (spB T K 62 A_right) [] E0 (tCons (tVar 3) tNil)) [4]) tNil)) f5 tk5 bx5 ?_ fun B6 H6 s6 => ?_
      · refine edx_cb1 (A := fun d => ∃ ds, (ds.length = 1 ∧ ∀ d ∈ ds, d = .bool true) ∧ d = .list ds) (edx_mapR (k := 62) (N := 1) (fun H R r => ⟨1, rfl, by decide, by decide, r⟩) (by decide) (fun _ => rfl) fun v B5 sb5 => edx_call (ds := []) rfl eda_nil ⟨rfl, rfl⟩) fun v d B5 ⟨ds, ⟨h1, h2⟩, hd⟩ sb5 rd => ?_
        subst hd
        rw [ones_of h1 h2] at rd
        exact ⟨.bool true, rfl, (ed_all (ed_c rd)).is rfl⟩
      · have sx : St T B4 Hx B6 H6 := by
          have := s6.st
          rw [cut_upd n4] at this
          exact this
        exact ⟨_, _, _, B6, rfl, (sb.trans s4.sub).trans sx.sub, (s.trans s4).trans sx⟩
    · rintro σ' H4 ⟨o2, o3, o4, B4, rfl, sb, s⟩
      exact sd_ret (σ := start [] []) s.fz (s.ok tk) (ed_bl true) fun v' B' H' s' r' => q v' B' H' (s.trans s') r'
end
end Vk

set_option Elab.async false
set_option linter.all false
set_option maxRecDepth 100000
set_option maxHeartbeats 0
/-! The head: the top run once in the kernel; the facts of the code. -/
namespace Vk
open PySem PySem.Spec PyProof.Rows L2
def d_set_of : He.DefD := ⟨("set_of", none), "set_of", "set_of", defArgs s_set_of, defBody s_set_of, defScope s_set_of, [], []⟩
def d_tupled : He.DefD := ⟨("tupled", none), "tupled", "tupled", defArgs s_tupled, defBody s_tupled, defScope s_tupled, [], []⟩
def d_is_within : He.DefD := ⟨("is_within", none), "is_within", "is_within", defArgs s_is_within, defBody s_is_within, defScope s_is_within, [], []⟩
def d_subsets : He.DefD := ⟨("subsets", none), "subsets", "subsets", defArgs s_subsets, defBody s_subsets, defScope s_subsets, [], []⟩
def d_by_size : He.DefD := ⟨("by_size", none), "by_size", "by_size", defArgs s_by_size, defBody s_by_size, defScope s_by_size, [], []⟩
def d_least_sets : He.DefD := ⟨("least_sets", none), "least_sets", "least_sets", defArgs s_least_sets, defBody s_least_sets, defScope s_least_sets, [], []⟩
def d_keys_of : He.DefD := ⟨("keys_of", none), "keys_of", "keys_of", defArgs s_keys_of, defBody s_keys_of, defScope s_keys_of, [], []⟩
def d_check_keys : He.DefD := ⟨("check_keys", none), "check_keys", "check_keys", defArgs s_check_keys, defBody s_check_keys, defScope s_check_keys, [], []⟩
def d_check_same_keys : He.DefD := ⟨("check_same_keys", none), "check_same_keys", "check_same_keys", defArgs s_check_same_keys, defBody s_check_same_keys, defScope s_check_same_keys, [], []⟩
def d_has_opener : He.DefD := ⟨("has_opener", none), "has_opener", "has_opener", defArgs s_has_opener, defBody s_has_opener, defScope s_has_opener, [], []⟩
def d_least_vault : He.DefD := ⟨("least_vault", none), "least_vault", "least_vault", defArgs s_least_vault, defBody s_least_vault, defScope s_least_vault, [], []⟩
def d_vault_of : He.DefD := ⟨("vault_of", none), "vault_of", "vault_of", defArgs s_vault_of, defBody s_vault_of, defScope s_vault_of, [], []⟩
def d_opens : He.DefD := ⟨("opens", none), "opens", "opens", defArgs s_opens, defBody s_opens, defScope s_opens, [], []⟩
def d_either : He.DefD := ⟨("either", none), "either", "either", defArgs s_either, defBody s_either, defScope s_either, [], []⟩
def d_both : He.DefD := ⟨("both", none), "both", "both", defArgs s_both, defBody s_both, defScope s_both, [], []⟩
def d_keys_named : He.DefD := ⟨("keys_named", none), "keys_named", "keys_named", defArgs s_keys_named, defBody s_keys_named, defScope s_keys_named, [], []⟩
def d_check_edit : He.DefD := ⟨("check_edit", none), "check_edit", "check_edit", defArgs s_check_edit, defBody s_check_edit, defScope s_check_edit, [], []⟩
def d_with_key_more : He.DefD := ⟨("with_key_more", none), "with_key_more", "with_key_more", defArgs s_with_key_more, defBody s_with_key_more, defScope s_with_key_more, [], []⟩
def d_swapped : He.DefD := ⟨("swapped", none), "swapped", "swapped", defArgs s_swapped, defBody s_swapped, defScope s_swapped, [], []⟩
def d_edited_openers : He.DefD := ⟨("edited_openers", none), "edited_openers", "edited_openers", defArgs s_edited_openers, defBody s_edited_openers, defScope s_edited_openers, [], []⟩
def d_edited : He.DefD := ⟨("edited", none), "edited", "edited", defArgs s_edited, defBody s_edited, defScope s_edited, [], []⟩
def d_openers_of : He.DefD := ⟨("openers_of", none), "openers_of", "openers_of", defArgs s_openers_of, defBody s_openers_of, defScope s_openers_of, [], []⟩
def d_new_openers : He.DefD := ⟨("new_openers", none), "new_openers", "new_openers", defArgs s_new_openers, defBody s_new_openers, defScope s_new_openers, [], []⟩
def d_lost_openers : He.DefD := ⟨("lost_openers", none), "lost_openers", "lost_openers", defArgs s_lost_openers, defBody s_lost_openers, defScope s_lost_openers, [], []⟩
def d_is_milder : He.DefD := ⟨("is_milder", none), "is_milder", "is_milder", defArgs s_is_milder, defBody s_is_milder, defScope s_is_milder, [], []⟩
def d_handed : He.DefD := ⟨("handed", none), "handed", "handed", defArgs s_handed, defBody s_handed, defScope s_handed, [], []⟩
def d_keys_with : He.DefD := ⟨("keys_with", none), "keys_with", "keys_with", defArgs s_keys_with, defBody s_keys_with, defScope s_keys_with, [], []⟩
def d_group_opens : He.DefD := ⟨("group_opens", none), "group_opens", "group_opens", defArgs s_group_opens, defBody s_group_opens, defScope s_group_opens, [], []⟩
def d_groups_that : He.DefD := ⟨("groups_that", none), "groups_that", "groups_that", defArgs s_groups_that, defBody s_groups_that, defScope s_groups_that, [], []⟩
def d_new_groups : He.DefD := ⟨("new_groups", none), "new_groups", "new_groups", defArgs s_new_groups, defBody s_new_groups, defScope s_new_groups, [], []⟩
def d_lost_groups : He.DefD := ⟨("lost_groups", none), "lost_groups", "lost_groups", defArgs s_lost_groups, defBody s_lost_groups, defScope s_lost_groups, [], []⟩
def d_are_met : He.DefD := ⟨("are_met", none), "are_met", "are_met", defArgs s_are_met, defBody s_are_met, defScope s_are_met, [], []⟩
def d__law_box : He.DefD := ⟨("_law_box", none), "_law_box", "_law_box", defArgs s__law_box, defBody s__law_box, defScope s__law_box, [], []⟩
def d__law_take : He.DefD := ⟨("_law_take", none), "_law_take", "_law_take", defArgs s__law_take, defBody s__law_take, defScope s__law_take, [], []⟩
def d__law_cells : He.DefD := ⟨("_law_cells", none), "_law_cells", "_law_cells", defArgs s__law_cells, defBody s__law_cells, defScope s__law_cells, [], []⟩
def d__law_of : He.DefD := ⟨("_law_of", none), "_law_of", "_law_of", defArgs s__law_of, defBody s__law_of, defScope s__law_of, [], []⟩
def d__law_same : He.DefD := ⟨("_law_same", none), "_law_same", "_law_same", defArgs s__law_same, defBody s__law_same, defScope s__law_same, [], []⟩
def d__law_pick : He.DefD := ⟨("_law_pick", none), "_law_pick", "_law_pick", defArgs s__law_pick, defBody s__law_pick, defScope s__law_pick, [], []⟩
def d__law_lots : He.DefD := ⟨("_law_lots", none), "_law_lots", "_law_lots", defArgs s__law_lots, defBody s__law_lots, defScope s__law_lots, [], []⟩
def d__law_least : He.DefD := ⟨("_law_least", none), "_law_least", "_law_least", defArgs s__law_least, defBody s__law_least, defScope s__law_least, [], []⟩
def d__law_names : He.DefD := ⟨("_law_names", none), "_law_names", "_law_names", defArgs s__law_names, defBody s__law_names, defScope s__law_names, [], []⟩
def d__law_vault : He.DefD := ⟨("_law_vault", none), "_law_vault", "_law_vault", defArgs s__law_vault, defBody s__law_vault, defScope s__law_vault, [], []⟩
def d__law_holders : He.DefD := ⟨("_law_holders", none), "_law_holders", "_law_holders", defArgs s__law_holders, defBody s__law_holders, defScope s__law_holders, [], []⟩
def d__law_edit : He.DefD := ⟨("_law_edit", none), "_law_edit", "_law_edit", defArgs s__law_edit, defBody s__law_edit, defScope s__law_edit, [], []⟩
def d__law_kit : He.DefD := ⟨("_law_kit", none), "_law_kit", "_law_kit", defArgs s__law_kit, defBody s__law_kit, defScope s__law_kit, [], []⟩
def d__law_state_right : He.DefD := ⟨("_law_state_right", none), "_law_state_right", "_law_state_right", defArgs s__law_state_right, defBody s__law_state_right, defScope s__law_state_right, [], []⟩
def d__law_case_right : He.DefD := ⟨("_law_case_right", none), "_law_case_right", "_law_case_right", defArgs s__law_case_right, defBody s__law_case_right, defScope s__law_case_right, [], []⟩
def d__law_by_hand_right : He.DefD := ⟨("_law_by_hand_right", none), "_law_by_hand_right", "_law_by_hand_right", defArgs s__law_by_hand_right, defBody s__law_by_hand_right, defScope s__law_by_hand_right, [], []⟩
def d__law_right : He.DefD := ⟨("_law_right", none), "_law_right", "_law_right", defArgs s__law_right, defBody s__law_right, defScope s__law_right, [], []⟩
def d_law : He.DefD := ⟨("law", none), "law", "law", defArgs s_law, defBody s_law, defScope s_law, [], []⟩
def d_Watch_init : He.DefD := ⟨("Watch", some "__init__"), "__init__", "Watch.__init__", defArgs s_Watch_init, defBody s_Watch_init, defScope s_Watch_init, [], []⟩
def d_Watch_do : He.DefD := ⟨("Watch", some "do"), "do", "Watch.do", defArgs s_Watch_do, defBody s_Watch_do, defScope s_Watch_do, [], []⟩
def d_Watch_back_alone : He.DefD := ⟨("Watch", some "back_alone"), "back_alone", "Watch.back_alone", defArgs s_Watch_back_alone, defBody s_Watch_back_alone, defScope s_Watch_back_alone, [], []⟩
def d_Watch_opened_by : He.DefD := ⟨("Watch", some "opened_by"), "opened_by", "Watch.opened_by", defArgs s_Watch_opened_by, defBody s_Watch_opened_by, defScope s_Watch_opened_by, [], []⟩
def d_Watch_first_open : He.DefD := ⟨("Watch", some "first_open"), "first_open", "Watch.first_open", defArgs s_Watch_first_open, defBody s_Watch_first_open, defScope s_Watch_first_open, [], []⟩
def d_Watch_ever_vault : He.DefD := ⟨("Watch", some "ever_vault"), "ever_vault", "Watch.ever_vault", defArgs s_Watch_ever_vault, defBody s_Watch_ever_vault, defScope s_Watch_ever_vault, [], []⟩
def d_Watch_always_vault : He.DefD := ⟨("Watch", some "always_vault"), "always_vault", "Watch.always_vault", defArgs s_Watch_always_vault, defBody s_Watch_always_vault, defScope s_Watch_always_vault, [], []⟩
def d_Watch_newly : He.DefD := ⟨("Watch", some "newly"), "newly", "Watch.newly", defArgs s_Watch_newly, defBody s_Watch_newly, defScope s_Watch_newly, [], []⟩
def d_Watch_no_longer : He.DefD := ⟨("Watch", some "no_longer"), "no_longer", "Watch.no_longer", defArgs s_Watch_no_longer, defBody s_Watch_no_longer, defScope s_Watch_no_longer, [], []⟩
def d_Watch_vault : He.DefD := ⟨("", none), "vault", "Watch.vault", defArgs s_Watch_vault, defBody s_Watch_vault, defScope s_Watch_vault, [], []⟩
def d_Watch_holders : He.DefD := ⟨("", none), "holders", "Watch.holders", defArgs s_Watch_holders, defBody s_Watch_holders, defScope s_Watch_holders, [], []⟩
def d_Watch_told : He.DefD := ⟨("", none), "told", "Watch.told", defArgs s_Watch_told, defBody s_Watch_told, defScope s_Watch_told, [], []⟩
def fn0 : List He.DefD := [d_set_of, d_tupled, d_is_within, d_subsets, d_by_size, d_least_sets, d_keys_of, d_check_keys, d_check_same_keys, d_has_opener, d_least_vault, d_vault_of, d_opens, d_either, d_both, d_keys_named, d_check_edit, d_with_key_more, d_swapped, d_edited_openers]
def fn1 : List He.DefD := [d_edited, d_openers_of, d_new_openers, d_lost_openers, d_is_milder, d_handed, d_keys_with, d_group_opens, d_groups_that, d_new_groups, d_lost_groups, d_are_met, d__law_box, d__law_take, d__law_cells, d__law_of, d__law_same, d__law_pick, d__law_lots, d__law_least]
def fn2 : List He.DefD := [d__law_names, d__law_vault, d__law_holders, d__law_edit, d__law_kit, d__law_state_right, d__law_case_right, d__law_by_hand_right, d__law_right, d_law, d_Watch_init, d_Watch_do, d_Watch_back_alone, d_Watch_opened_by, d_Watch_first_open, d_Watch_ever_vault, d_Watch_always_vault, d_Watch_newly, d_Watch_no_longer]
def fn : List He.DefD := fn0 ++ fn1 ++ fn2
def fa0 : List He.Fa := [.glo "set_of", .glo "tupled", .glo "is_within", .glo "subsets", .glo "by_size", .glo "least_sets", .glo "keys_of", .glo "check_keys", .glo "check_same_keys", .glo "has_opener", .glo "least_vault", .glo "vault_of", .glo "opens", .glo "either", .glo "both", .glo "keys_named", .glo "check_edit", .glo "with_key_more", .glo "swapped", .glo "edited_openers"]
def fa1 : List He.Fa := [.glo "edited", .glo "openers_of", .glo "new_openers", .glo "lost_openers", .glo "is_milder", .glo "handed", .glo "keys_with", .glo "group_opens", .glo "groups_that", .glo "new_groups", .glo "lost_groups", .glo "are_met", .glo "_law_box", .glo "_law_take", .glo "_law_cells", .glo "_law_of", .glo "_law_same", .glo "_law_pick", .glo "_law_lots", .glo "_law_least"]
def fa2 : List He.Fa := [.glo "_law_names", .glo "_law_vault", .glo "_law_holders", .glo "_law_edit", .glo "_law_kit", .glo "_law_state_right", .glo "_law_case_right", .glo "_law_by_hand_right", .glo "_law_right", .glo "law", .glo "Watch", .glo "opens_vaults", .free "abs", .free "all", .free "any", .free "bool", .free "enumerate", .free "int", .free "isinstance", .free "len"]
def fa3 : List He.Fa := [.free "list", .free "min", .free "range", .free "set", .free "sorted", .free "str", .free "tuple", .free "zip", .str "OPENS" "opens", .str "BARS" "bars", .str "LOST" "lost", .str "LEFT" "left", .str "SWAP" "swap", .str "HAND" "hand", .mkr "Watch", .meth "Watch" "do", .meth "Watch" "back_alone", .meth "Watch" "opened_by", .meth "Watch" "first_open", .meth "Watch" "ever_vault"]
def fa4 : List He.Fa := [.meth "Watch" "always_vault", .meth "Watch" "newly", .meth "Watch" "no_longer"]
def fa : List He.Fa := fa0 ++ fa1 ++ fa2 ++ fa3 ++ fa4
def loose0 : List Str := ["_wall", "VaultError", "NoKey", "NoNumber", "OtherKeys", "NothingDone", "set_of", "tupled", "is_within", "subsets", "by_size", "least_sets", "keys_of", "check_keys", "check_same_keys", "has_opener", "least_vault", "vault_of", "opens", "opens_vaults"]
def loose1 : List Str := ["either", "both", "OPENS", "BARS", "LOST", "LEFT", "SWAP", "HAND", "keys_named", "check_edit", "with_key_more", "swapped", "edited_openers", "edited", "Watch", "openers_of", "new_openers", "lost_openers", "is_milder", "handed"]
def loose2 : List Str := ["keys_with", "group_opens", "groups_that", "new_groups", "lost_groups", "are_met", "_law_box", "_law_take", "_law_cells", "_law_of", "_law_same", "_law_pick", "_law_lots", "_law_least", "_law_names", "_law_vault", "_law_holders", "_law_edit", "_law_kit", "_law_state_right"]
def loose3 : List Str := ["_law_case_right", "_law_by_hand_right", "_law_right"]
def loose : List Str := loose0 ++ loose1 ++ loose2 ++ loose3
/-! what the Hook asks besides: the class with slots, its properties -/
def CW (K : PySem.W.Frag) : Addr := He.ga K "Watch"
def slotB (K : PySem.W.Frag) (x : Str) (i : Nat) : Bool :=
  He.eqO (PySem.W.findIn K (.ref (CW K)) x) (some (some (.ref (He.ma K (CW K) x)))) &&
  (He.eqO (PySem.W.specialIn K (.ref (He.ma K (CW K) x)) "__get__") (some (some (.builtin "member_descriptor.__get__"))) &&
  (decide (PySem.W.takesIn K (.ref (He.ma K (CW K) x)) = some true) && (decide (PySem.W.typeIn K (.ref (He.ma K (CW K) x)) = some (.type "member_descriptor")) &&
  decide (PySem.W.slotIn K (He.ma K (CW K) x) (CW K) = some i))))
/-- a property's getter -/
def gtr (K : PySem.W.Frag) (x : Str) : Addr := match PySem.W.recIn K (He.ma K (CW K) x) "property" with
  | some (.ref g :: _) => g
  | _ => 0
def propB (K : PySem.W.Frag) (x q : Str) : Bool :=
  He.eqO (PySem.W.findIn K (.ref (CW K)) x) (some (some (.ref (He.ma K (CW K) x)))) &&
  (He.eqO (PySem.W.specialIn K (.ref (He.ma K (CW K) x)) "__get__") (some (some (.builtin "property.__get__"))) &&
  (decide (PySem.W.takesIn K (.ref (He.ma K (CW K) x)) = some true) && ((match PySem.W.recIn K (He.ma K (CW K) x) "property" with
    | some (.ref _ :: _) => true
    | _ => false) &&
  (PySem.W.keepIn K (.ref (gtr K x)) && (match K.lookup (gtr K x) with
    | some ⟨_, _, .func fd, _⟩ => PySem.W.codeIn K fd.code q && He.dflB K fd.defaults []
    | _ => false)))))
def clsB (K : PySem.W.Frag) : Bool := PySem.W.plainGet K (CW K) Str.empty && (PySem.W.isClsIn K (CW K) && (PySem.W.plainOver K (CW K) && He.eqO (PySem.W.findIn K (.ref (CW K)) "__setattr__") (some (some (.builtin "object.__setattr__")))))
def exB (K : PySem.W.Frag) : Bool := clsB K && (slotB K "own_states" 0 && (slotB K "own_told" 1 && (propB K "vault" "Watch.vault" && (propB K "holders" "Watch.holders" && (propB K "told" "Watch.told" &&
  He.eqO (PySem.W.nsIn K mainGlobals "opens_vaults") (some (some (.ref (He.ga K "opens"))))))))) 
def gts : List (Str × He.DefD) := [("vault", d_Watch_vault), ("holders", d_Watch_holders), ("told", d_Watch_told)]
def fnA (K : PySem.W.Frag) (a : Addr) : He.FnW := match K.lookup a with
  | some ⟨_, _, .func fd, _⟩ => some (fd.name, fd.qualname, fd.params, fd.body, fd.scope, fd.globals, fd.closure, fd.builtins)
  | _ => none
def tf : List He.Defn := [("by_size", none)]
abbrev AlW : Type := He.AlX × List He.FnW
def obsW (g : Addr → Option Obj) : AlW := (He.obsX 6 fa fn [] tf exB g, gts.map fun d => fnA (He.frT g (He.asD g 6)) (gtr (He.frT g (He.asD g 6)) d.1))
def valW (w : World) : AlW := (He.valX fn [] w, gts.map fun d => d.2.val)
structure SaysW (w : World) (h : Heap) (K : PySem.W.Frag) : Prop where
  x : He.SaysX fa fn [] tf exB w h K
  g : (gts.map fun d => fnA K (gtr K d.1)) = gts.map fun d => d.2.val
def hookW : PySem.W.Hook where
  α := AlW
  obs := fun s => obsW s.heap.get?
  val := fun w => valW w
  says := fun w h => ∃ K : PySem.W.Frag, K.In h ∧ SaysW w h K
  of := fun _ _ e => ⟨_, He.frT_in, ⟨He.saysX_of (congrArg (fun z : AlW => z.1) e), congrArg (fun z : AlW => z.2) e⟩⟩
  keeps := fun _ _ _ ⟨K, hK, c⟩ k => ⟨K, PySem.W.Frag.In.keeps hK k, ⟨⟨c.x.t, c.x.more, c.x.hd, c.x.out, fun p hp => k _ _ (c.x.empty p hp)⟩, c.g⟩⟩
def obW (s : PySem.W.SharedT) : AlW := obsW (HandSHeadRun.getT s)
theorem obW_eq (s : PySem.W.SharedT) : obW s = hookW.obs s.abs := by
  have e : HandSHeadRun.getT s = s.abs.heap.get? := funext (HandSHeadRun.getT_eq s)
  show obsW (HandSHeadRun.getT s) = obsW s.abs.heap.get?
  rw [e]
abbrev RR : PySem.W.OpenRow := PySem.W.OpenLaw.row PySem.Challenge.rw_vaultkeys_k96_whole_watches_beside_chang
theorem run (w : World) : HandSHeadRun.RunEq RR (PySem.W.view RR.prog [69]) hookW obW 6000 loose w := by
  intro os
  kernel_rfl
end Vk

set_option Elab.async false
set_option linter.all false
set_option maxRecDepth 100000
set_option maxHeartbeats 0
/-! The end: from the head's facts to the law (printed by pend.py). -/
namespace Vk
open PySem PySem.Spec PyProof.Rows L2
section
variable {P : Program} {w : World} {K : PySem.W.Frag} {h : Heap} {mg : Str → Option Value}
theorem fnA_def {x : Str} {d : He.DefD} (e : fnA K (gtr K x) = d.val) (hd : d.dfl = []) (hk : d.kwd = []) (hp : propB K x d.qual = true) : ∃ fd, FunD K d.name d.qual d.params d.body d.scope [] [] (gtr K x) fd := by
  obtain ⟨_, c⟩ := He.ba hp
  obtain ⟨_, c⟩ := He.ba c
  obtain ⟨_, c⟩ := He.ba c
  obtain ⟨_, c⟩ := He.ba c
  obtain ⟨kp, c2⟩ := He.ba c
  unfold fnA at e
  cases q : K.lookup (gtr K x) with
  | none =>
    rw [q] at c2
    cases c2
  | some o =>
    obtain ⟨oc, od, dt, osl⟩ := o
    rw [q] at c2 e
    cases dt with
    | func fd =>
      obtain ⟨n1, n2, n3, n4, n5, n6, n7, n8, n9, n10, n11, n12, n13, n14, n15⟩ := fd
      have e2 : (some (n1, n2, n3, n4, n5, n6, n7, n15) : He.FnW) = some (d.name, d.qual, d.params, .stmts d.body, d.scope, mainGlobals, [], builtinsNs) := e
      simp only [Option.some.injEq, Prod.mk.injEq] at e2
      obtain ⟨h1, h2, h3, h4, h5, h6, h7, h8⟩ := e2
      subst h1 h2 h3 h4 h5 h6 h7 h8
      obtain ⟨k1, k3⟩ := He.ba (show (PySem.W.codeIn K n13 d.qual && He.dflB K n8 []) = true from c2)
      exact ⟨_, ⟨oc, od, n8, n9, n10, n11, n12, n13, n14, osl, rfl, q, k1, He.dflB_ok k3, He.kwdB_ok (kws := []) rfl⟩, kp⟩
    | _ => cases c2
theorem slot_of {x : Str} {i : Nat} (c : slotB K x i = true) (hi : i < 1000) : SlX.Slot1 K (CW K) x (He.ma K (CW K) x) i := by
  obtain ⟨c1, c⟩ := He.ba c
  obtain ⟨c2, c⟩ := He.ba c
  obtain ⟨c3, c⟩ := He.ba c
  obtain ⟨c4, c5⟩ := He.ba c
  exact ⟨He.eqO_ok c1, He.eqO_ok c2, of_decide_eq_true c3, of_decide_eq_true c4, of_decide_eq_true c5, hi⟩
def prp_of {x q : Str} (c : propB K x q = true) : Prp K (CW K) x (gtr K x) :=
  have c1 := (He.ba c).1
  have d1 := (He.ba c).2
  have c2 := (He.ba d1).1
  have d2 := (He.ba d1).2
  have c3 := (He.ba d2).1
  have c4 := (He.ba (He.ba d2).2).1
  ⟨He.ma K (CW K) x, He.eqO_ok c1, He.eqO_ok c2, of_decide_eq_true c3, by
    unfold gtr
    split at c4
    · rename_i g r e
      rw [e]
      exact ⟨r, rfl⟩
    · cases c4⟩
theorem cls_of (c : clsB K = true) : SlX.SCls K (CW K) := by
  obtain ⟨c1, c⟩ := He.ba c
  obtain ⟨c2, c⟩ := He.ba c
  obtain ⟨c3, c4⟩ := He.ba c
  exact ⟨c1, c2, c3, He.eqO_ok c4⟩
theorem ex_of (c : exB K = true) : clsB K = true ∧ slotB K "own_states" 0 = true ∧ slotB K "own_told" 1 = true ∧ propB K "vault" "Watch.vault" = true ∧ propB K "holders" "Watch.holders" = true ∧ propB K "told" "Watch.told" = true ∧ He.eqO (PySem.W.nsIn K mainGlobals "opens_vaults") (some (some (.ref (He.ga K "opens")))) = true := by
  obtain ⟨c1, c⟩ := He.ba c
  obtain ⟨c2, c⟩ := He.ba c
  obtain ⟨c3, c⟩ := He.ba c
  obtain ⟨c4, c⟩ := He.ba c
  obtain ⟨c5, c⟩ := He.ba c
  obtain ⟨c6, c7⟩ := He.ba c
  exact ⟨c1, c2, c3, c4, c5, c6, c7⟩
theorem gts_at (e : (gts.map fun d => fnA K (gtr K d.1)) = gts.map fun d => d.2.val) (i : Nat) {x : Str} {d : He.DefD} (h : gts[i]? = some (x, d)) : fnA K (gtr K x) = d.val := by
  have e2 : (gts.map fun d => fnA K (gtr K d.1))[i]? = (gts.map fun d => d.2.val)[i]? := by rw [e]
  rw [List.getElem?_map, List.getElem?_map, h] at e2
  exact Option.some.inj e2
noncomputable def codeOfHead (X : K.In h) (G : h.Ns mainGlobals mg) (c : SaysW w h K) : Code K mg where
  set_of := ⟨_, _, (c.x.t.d.def_ 0 (d := d_set_of) rfl).choose_spec, He.glo_ok X G (c.x.t.d.fact 0 (f := .glo "set_of") rfl), (c.x.t.d.def_ 0 (d := d_set_of) rfl).choose_spec.bindsN (ps := ["some"]) (fun _ _ _ _ _ _ us hl => match us, hl with | [_], _ => rfl)⟩
  tupled := ⟨_, _, (c.x.t.d.def_ 1 (d := d_tupled) rfl).choose_spec, He.glo_ok X G (c.x.t.d.fact 1 (f := .glo "tupled") rfl), (c.x.t.d.def_ 1 (d := d_tupled) rfl).choose_spec.bindsN (ps := ["value"]) (fun _ _ _ _ _ _ us hl => match us, hl with | [_], _ => rfl)⟩
  is_within := ⟨_, _, (c.x.t.d.def_ 2 (d := d_is_within) rfl).choose_spec, He.glo_ok X G (c.x.t.d.fact 2 (f := .glo "is_within") rfl), (c.x.t.d.def_ 2 (d := d_is_within) rfl).choose_spec.bindsN (ps := ["some", "others"]) (fun _ _ _ _ _ _ us hl => match us, hl with | [_, _], _ => rfl)⟩
  subsets := ⟨_, _, (c.x.t.d.def_ 3 (d := d_subsets) rfl).choose_spec, He.glo_ok X G (c.x.t.d.fact 3 (f := .glo "subsets") rfl), (c.x.t.d.def_ 3 (d := d_subsets) rfl).choose_spec.bindsN (ps := ["things"]) (fun _ _ _ _ _ _ us hl => match us, hl with | [_], _ => rfl)⟩
  by_size := ⟨_, _, (c.x.t.d.def_ 4 (d := d_by_size) rfl).choose_spec, He.glo_ok X G (c.x.t.d.fact 4 (f := .glo "by_size") rfl), (c.x.t.d.def_ 4 (d := d_by_size) rfl).choose_spec.bindsN (ps := ["sets"]) (fun _ _ _ _ _ _ us hl => match us, hl with | [_], _ => rfl)⟩
  least_sets := ⟨_, _, (c.x.t.d.def_ 5 (d := d_least_sets) rfl).choose_spec, He.glo_ok X G (c.x.t.d.fact 5 (f := .glo "least_sets") rfl), (c.x.t.d.def_ 5 (d := d_least_sets) rfl).choose_spec.bindsN (ps := ["sets"]) (fun _ _ _ _ _ _ us hl => match us, hl with | [_], _ => rfl)⟩
  keys_of := ⟨_, _, (c.x.t.d.def_ 6 (d := d_keys_of) rfl).choose_spec, He.glo_ok X G (c.x.t.d.fact 6 (f := .glo "keys_of") rfl), (c.x.t.d.def_ 6 (d := d_keys_of) rfl).choose_spec.bindsN (ps := ["vault"]) (fun _ _ _ _ _ _ us hl => match us, hl with | [_], _ => rfl)⟩
  check_keys := ⟨_, _, (c.x.t.d.def_ 7 (d := d_check_keys) rfl).choose_spec, He.glo_ok X G (c.x.t.d.fact 7 (f := .glo "check_keys") rfl), (c.x.t.d.def_ 7 (d := d_check_keys) rfl).choose_spec.bindsN (ps := ["vault", "names"]) (fun _ _ _ _ _ _ us hl => match us, hl with | [_, _], _ => rfl)⟩
  check_same_keys := ⟨_, _, (c.x.t.d.def_ 8 (d := d_check_same_keys) rfl).choose_spec, He.glo_ok X G (c.x.t.d.fact 8 (f := .glo "check_same_keys") rfl), (c.x.t.d.def_ 8 (d := d_check_same_keys) rfl).choose_spec.bindsN (ps := ["vault", "other"]) (fun _ _ _ _ _ _ us hl => match us, hl with | [_, _], _ => rfl)⟩
  has_opener := ⟨_, _, (c.x.t.d.def_ 9 (d := d_has_opener) rfl).choose_spec, He.glo_ok X G (c.x.t.d.fact 9 (f := .glo "has_opener") rfl), (c.x.t.d.def_ 9 (d := d_has_opener) rfl).choose_spec.bindsN (ps := ["openers", "held"]) (fun _ _ _ _ _ _ us hl => match us, hl with | [_, _], _ => rfl)⟩
  least_vault := ⟨_, _, (c.x.t.d.def_ 10 (d := d_least_vault) rfl).choose_spec, He.glo_ok X G (c.x.t.d.fact 10 (f := .glo "least_vault") rfl), (c.x.t.d.def_ 10 (d := d_least_vault) rfl).choose_spec.bindsN (ps := ["keys", "sets"]) (fun _ _ _ _ _ _ us hl => match us, hl with | [_, _], _ => rfl)⟩
  vault_of := ⟨_, _, (c.x.t.d.def_ 11 (d := d_vault_of) rfl).choose_spec, He.glo_ok X G (c.x.t.d.fact 11 (f := .glo "vault_of") rfl), (c.x.t.d.def_ 11 (d := d_vault_of) rfl).choose_spec.bindsN (ps := ["keys", "sets"]) (fun _ _ _ _ _ _ us hl => match us, hl with | [_, _], _ => rfl)⟩
  opens := ⟨_, _, (c.x.t.d.def_ 12 (d := d_opens) rfl).choose_spec, He.glo_ok X G (c.x.t.d.fact 12 (f := .glo "opens") rfl), (c.x.t.d.def_ 12 (d := d_opens) rfl).choose_spec.bindsN (ps := ["vault", "held"]) (fun _ _ _ _ _ _ us hl => match us, hl with | [_, _], _ => rfl)⟩
  either := ⟨_, _, (c.x.t.d.def_ 13 (d := d_either) rfl).choose_spec, He.glo_ok X G (c.x.t.d.fact 13 (f := .glo "either") rfl), (c.x.t.d.def_ 13 (d := d_either) rfl).choose_spec.bindsN (ps := ["vault", "other"]) (fun _ _ _ _ _ _ us hl => match us, hl with | [_, _], _ => rfl)⟩
  both := ⟨_, _, (c.x.t.d.def_ 14 (d := d_both) rfl).choose_spec, He.glo_ok X G (c.x.t.d.fact 14 (f := .glo "both") rfl), (c.x.t.d.def_ 14 (d := d_both) rfl).choose_spec.bindsN (ps := ["vault", "other"]) (fun _ _ _ _ _ _ us hl => match us, hl with | [_, _], _ => rfl)⟩
  keys_named := ⟨_, _, (c.x.t.d.def_ 15 (d := d_keys_named) rfl).choose_spec, He.glo_ok X G (c.x.t.d.fact 15 (f := .glo "keys_named") rfl), (c.x.t.d.def_ 15 (d := d_keys_named) rfl).choose_spec.bindsN (ps := ["edit"]) (fun _ _ _ _ _ _ us hl => match us, hl with | [_], _ => rfl)⟩
  check_edit := ⟨_, _, (c.x.t.d.def_ 16 (d := d_check_edit) rfl).choose_spec, He.glo_ok X G (c.x.t.d.fact 16 (f := .glo "check_edit") rfl), (c.x.t.d.def_ 16 (d := d_check_edit) rfl).choose_spec.bindsN (ps := ["vault", "edit"]) (fun _ _ _ _ _ _ us hl => match us, hl with | [_, _], _ => rfl)⟩
  with_key_more := ⟨_, _, (c.x.t.d.def_ 17 (d := d_with_key_more) rfl).choose_spec, He.glo_ok X G (c.x.t.d.fact 17 (f := .glo "with_key_more") rfl), (c.x.t.d.def_ 17 (d := d_with_key_more) rfl).choose_spec.bindsN (ps := ["sets", "some"]) (fun _ _ _ _ _ _ us hl => match us, hl with | [_, _], _ => rfl)⟩
  swapped := ⟨_, _, (c.x.t.d.def_ 18 (d := d_swapped) rfl).choose_spec, He.glo_ok X G (c.x.t.d.fact 18 (f := .glo "swapped") rfl), (c.x.t.d.def_ 18 (d := d_swapped) rfl).choose_spec.bindsN (ps := ["some", "one", "other"]) (fun _ _ _ _ _ _ us hl => match us, hl with | [_, _, _], _ => rfl)⟩
  edited_openers := ⟨_, _, (c.x.t.d.def_ 19 (d := d_edited_openers) rfl).choose_spec, He.glo_ok X G (c.x.t.d.fact 19 (f := .glo "edited_openers") rfl), (c.x.t.d.def_ 19 (d := d_edited_openers) rfl).choose_spec.bindsN (ps := ["openers", "edit"]) (fun _ _ _ _ _ _ us hl => match us, hl with | [_, _], _ => rfl)⟩
  edited := ⟨_, _, (c.x.t.d.def_ 20 (d := d_edited) rfl).choose_spec, He.glo_ok X G (c.x.t.d.fact 20 (f := .glo "edited") rfl), (c.x.t.d.def_ 20 (d := d_edited) rfl).choose_spec.bindsN (ps := ["vault", "holders", "edit"]) (fun _ _ _ _ _ _ us hl => match us, hl with | [_, _, _], _ => rfl)⟩
  openers_of := ⟨_, _, (c.x.t.d.def_ 21 (d := d_openers_of) rfl).choose_spec, He.glo_ok X G (c.x.t.d.fact 21 (f := .glo "openers_of") rfl), (c.x.t.d.def_ 21 (d := d_openers_of) rfl).choose_spec.bindsN (ps := ["vault"]) (fun _ _ _ _ _ _ us hl => match us, hl with | [_], _ => rfl)⟩
  new_openers := ⟨_, _, (c.x.t.d.def_ 22 (d := d_new_openers) rfl).choose_spec, He.glo_ok X G (c.x.t.d.fact 22 (f := .glo "new_openers") rfl), (c.x.t.d.def_ 22 (d := d_new_openers) rfl).choose_spec.bindsN (ps := ["vault", "other"]) (fun _ _ _ _ _ _ us hl => match us, hl with | [_, _], _ => rfl)⟩
  lost_openers := ⟨_, _, (c.x.t.d.def_ 23 (d := d_lost_openers) rfl).choose_spec, He.glo_ok X G (c.x.t.d.fact 23 (f := .glo "lost_openers") rfl), (c.x.t.d.def_ 23 (d := d_lost_openers) rfl).choose_spec.bindsN (ps := ["vault", "other"]) (fun _ _ _ _ _ _ us hl => match us, hl with | [_, _], _ => rfl)⟩
  is_milder := ⟨_, _, (c.x.t.d.def_ 24 (d := d_is_milder) rfl).choose_spec, He.glo_ok X G (c.x.t.d.fact 24 (f := .glo "is_milder") rfl), (c.x.t.d.def_ 24 (d := d_is_milder) rfl).choose_spec.bindsN (ps := ["vault", "other"]) (fun _ _ _ _ _ _ us hl => match us, hl with | [_, _], _ => rfl)⟩
  handed := ⟨_, _, (c.x.t.d.def_ 25 (d := d_handed) rfl).choose_spec, He.glo_ok X G (c.x.t.d.fact 25 (f := .glo "handed") rfl), (c.x.t.d.def_ 25 (d := d_handed) rfl).choose_spec.bindsN (ps := ["vault", "holders", "key", "person"]) (fun _ _ _ _ _ _ us hl => match us, hl with | [_, _, _, _], _ => rfl)⟩
  keys_with := ⟨_, _, (c.x.t.d.def_ 26 (d := d_keys_with) rfl).choose_spec, He.glo_ok X G (c.x.t.d.fact 26 (f := .glo "keys_with") rfl), (c.x.t.d.def_ 26 (d := d_keys_with) rfl).choose_spec.bindsN (ps := ["vault", "holders", "group"]) (fun _ _ _ _ _ _ us hl => match us, hl with | [_, _, _], _ => rfl)⟩
  group_opens := ⟨_, _, (c.x.t.d.def_ 27 (d := d_group_opens) rfl).choose_spec, He.glo_ok X G (c.x.t.d.fact 27 (f := .glo "group_opens") rfl), (c.x.t.d.def_ 27 (d := d_group_opens) rfl).choose_spec.bindsN (ps := ["vault", "holders", "group"]) (fun _ _ _ _ _ _ us hl => match us, hl with | [_, _, _], _ => rfl)⟩
  groups_that := ⟨_, _, (c.x.t.d.def_ 28 (d := d_groups_that) rfl).choose_spec, He.glo_ok X G (c.x.t.d.fact 28 (f := .glo "groups_that") rfl), (c.x.t.d.def_ 28 (d := d_groups_that) rfl).choose_spec.bindsN (ps := ["vault", "holders", "later"]) (fun _ _ _ _ _ _ us hl => match us, hl with | [_, _, _], _ => rfl)⟩
  new_groups := ⟨_, _, (c.x.t.d.def_ 29 (d := d_new_groups) rfl).choose_spec, He.glo_ok X G (c.x.t.d.fact 29 (f := .glo "new_groups") rfl), (c.x.t.d.def_ 29 (d := d_new_groups) rfl).choose_spec.bindsN (ps := ["vault", "holders", "later"]) (fun _ _ _ _ _ _ us hl => match us, hl with | [_, _, _], _ => rfl)⟩
  lost_groups := ⟨_, _, (c.x.t.d.def_ 30 (d := d_lost_groups) rfl).choose_spec, He.glo_ok X G (c.x.t.d.fact 30 (f := .glo "lost_groups") rfl), (c.x.t.d.def_ 30 (d := d_lost_groups) rfl).choose_spec.bindsN (ps := ["vault", "holders", "later"]) (fun _ _ _ _ _ _ us hl => match us, hl with | [_, _, _], _ => rfl)⟩
  are_met := ⟨_, _, (c.x.t.d.def_ 31 (d := d_are_met) rfl).choose_spec, He.glo_ok X G (c.x.t.d.fact 31 (f := .glo "are_met") rfl), (c.x.t.d.def_ 31 (d := d_are_met) rfl).choose_spec.bindsN (ps := ["vault", "holders", "wanted", "unwanted"]) (fun _ _ _ _ _ _ us hl => match us, hl with | [_, _, _, _], _ => rfl)⟩
  _law_box := ⟨_, _, (c.x.t.d.def_ 32 (d := d__law_box) rfl).choose_spec, He.glo_ok X G (c.x.t.d.fact 32 (f := .glo "_law_box") rfl), (c.x.t.d.def_ 32 (d := d__law_box) rfl).choose_spec.bindsN (ps := ["_law_script", "_law_k"]) (fun _ _ _ _ _ _ us hl => match us, hl with | [_, _], _ => rfl)⟩
  _law_take := ⟨_, _, (c.x.t.d.def_ 33 (d := d__law_take) rfl).choose_spec, He.glo_ok X G (c.x.t.d.fact 33 (f := .glo "_law_take") rfl), (c.x.t.d.def_ 33 (d := d__law_take) rfl).choose_spec.bindsN (ps := ["_law_box_here", "_law_top_so"]) (fun _ _ _ _ _ _ us hl => match us, hl with | [_, _], _ => rfl)⟩
  _law_cells := ⟨_, _, (c.x.t.d.def_ 34 (d := d__law_cells) rfl).choose_spec, He.glo_ok X G (c.x.t.d.fact 34 (f := .glo "_law_cells") rfl), (c.x.t.d.def_ 34 (d := d__law_cells) rfl).choose_spec.bindsN (ps := ["_law_script", "_law_top_so"]) (fun _ _ _ _ _ _ us hl => match us, hl with | [_, _], _ => rfl)⟩
  _law_of := ⟨_, _, (c.x.t.d.def_ 35 (d := d__law_of) rfl).choose_spec, He.glo_ok X G (c.x.t.d.fact 35 (f := .glo "_law_of") rfl), (c.x.t.d.def_ 35 (d := d__law_of) rfl).choose_spec.bindsN (ps := ["_law_box_here", "_law_goods_so"]) (fun _ _ _ _ _ _ us hl => match us, hl with | [_, _], _ => rfl)⟩
  _law_same := ⟨_, _, (c.x.t.d.def_ 36 (d := d__law_same) rfl).choose_spec, He.glo_ok X G (c.x.t.d.fact 36 (f := .glo "_law_same") rfl), (c.x.t.d.def_ 36 (d := d__law_same) rfl).choose_spec.bindsN (ps := ["_law_got", "_law_due"]) (fun _ _ _ _ _ _ us hl => match us, hl with | [_, _], _ => rfl)⟩
  _law_pick := ⟨_, _, (c.x.t.d.def_ 37 (d := d__law_pick) rfl).choose_spec, He.glo_ok X G (c.x.t.d.fact 37 (f := .glo "_law_pick") rfl), (c.x.t.d.def_ 37 (d := d__law_pick) rfl).choose_spec.bindsN (ps := ["_law_box_here", "_law_goods_so", "_law_count_so"]) (fun _ _ _ _ _ _ us hl => match us, hl with | [_, _, _], _ => rfl)⟩
  _law_lots := ⟨_, _, (c.x.t.d.def_ 38 (d := d__law_lots) rfl).choose_spec, He.glo_ok X G (c.x.t.d.fact 38 (f := .glo "_law_lots") rfl), (c.x.t.d.def_ 38 (d := d__law_lots) rfl).choose_spec.bindsN (ps := ["_law_names_so"]) (fun _ _ _ _ _ _ us hl => match us, hl with | [_], _ => rfl)⟩
  _law_least := ⟨_, _, (c.x.t.d.def_ 39 (d := d__law_least) rfl).choose_spec, He.glo_ok X G (c.x.t.d.fact 39 (f := .glo "_law_least") rfl), (c.x.t.d.def_ 39 (d := d__law_least) rfl).choose_spec.bindsN (ps := ["_law_sets_so"]) (fun _ _ _ _ _ _ us hl => match us, hl with | [_], _ => rfl)⟩
  _law_names := ⟨_, _, (c.x.t.d.def_ 40 (d := d__law_names) rfl).choose_spec, He.glo_ok X G (c.x.t.d.fact 40 (f := .glo "_law_names") rfl), (c.x.t.d.def_ 40 (d := d__law_names) rfl).choose_spec.bindsN (ps := ["_law_box_here", "_law_count_so"]) (fun _ _ _ _ _ _ us hl => match us, hl with | [_, _], _ => rfl)⟩
  _law_vault := ⟨_, _, (c.x.t.d.def_ 41 (d := d__law_vault) rfl).choose_spec, He.glo_ok X G (c.x.t.d.fact 41 (f := .glo "_law_vault") rfl), (c.x.t.d.def_ 41 (d := d__law_vault) rfl).choose_spec.bindsN (ps := ["_law_box_here", "_law_names_so", "_law_most_so"]) (fun _ _ _ _ _ _ us hl => match us, hl with | [_, _, _], _ => rfl)⟩
  _law_holders := ⟨_, _, (c.x.t.d.def_ 42 (d := d__law_holders) rfl).choose_spec, He.glo_ok X G (c.x.t.d.fact 42 (f := .glo "_law_holders") rfl), (c.x.t.d.def_ 42 (d := d__law_holders) rfl).choose_spec.bindsN (ps := ["_law_box_here", "_law_names_so"]) (fun _ _ _ _ _ _ us hl => match us, hl with | [_, _], _ => rfl)⟩
  _law_edit := ⟨_, _, (c.x.t.d.def_ 43 (d := d__law_edit) rfl).choose_spec, He.glo_ok X G (c.x.t.d.fact 43 (f := .glo "_law_edit") rfl), (c.x.t.d.def_ 43 (d := d__law_edit) rfl).choose_spec.bindsN (ps := ["_law_box_here", "_law_names_so"]) (fun _ _ _ _ _ _ us hl => match us, hl with | [_, _], _ => rfl)⟩
  _law_kit := ⟨_, _, (c.x.t.d.def_ 44 (d := d__law_kit) rfl).choose_spec, He.glo_ok X G (c.x.t.d.fact 44 (f := .glo "_law_kit") rfl), (c.x.t.d.def_ 44 (d := d__law_kit) rfl).choose_spec.bindsN (ps := []) (fun _ _ _ _ _ _ us hl => match us, hl with | [], _ => rfl)⟩
  _law_state_right := ⟨_, _, (c.x.t.d.def_ 45 (d := d__law_state_right) rfl).choose_spec, He.glo_ok X G (c.x.t.d.fact 45 (f := .glo "_law_state_right") rfl), (c.x.t.d.def_ 45 (d := d__law_state_right) rfl).choose_spec.bindsN (ps := ["_law_eyes", "_law_states_so"]) (fun _ _ _ _ _ _ us hl => match us, hl with | [_, _], _ => rfl)⟩
  _law_case_right := ⟨_, _, (c.x.t.d.def_ 46 (d := d__law_case_right) rfl).choose_spec, He.glo_ok X G (c.x.t.d.fact 46 (f := .glo "_law_case_right") rfl), (c.x.t.d.def_ 46 (d := d__law_case_right) rfl).choose_spec.bindsN (ps := ["_law_vault_so", "_law_mine_so", "_law_edits_so", "_law_places_so"]) (fun _ _ _ _ _ _ us hl => match us, hl with | [_, _, _, _], _ => rfl)⟩
  _law_by_hand_right := ⟨_, _, (c.x.t.d.def_ 47 (d := d__law_by_hand_right) rfl).choose_spec, He.glo_ok X G (c.x.t.d.fact 47 (f := .glo "_law_by_hand_right") rfl), (c.x.t.d.def_ 47 (d := d__law_by_hand_right) rfl).choose_spec.bindsN (ps := []) (fun _ _ _ _ _ _ us hl => match us, hl with | [], _ => rfl)⟩
  _law_right := ⟨_, _, (c.x.t.d.def_ 48 (d := d__law_right) rfl).choose_spec, He.glo_ok X G (c.x.t.d.fact 48 (f := .glo "_law_right") rfl), (c.x.t.d.def_ 48 (d := d__law_right) rfl).choose_spec.bindsN (ps := ["_law_box_here"]) (fun _ _ _ _ _ _ us hl => match us, hl with | [_], _ => rfl)⟩
  law := ⟨_, _, (c.x.t.d.def_ 49 (d := d_law) rfl).choose_spec, He.glo_ok X G (c.x.t.d.fact 49 (f := .glo "law") rfl), (c.x.t.d.def_ 49 (d := d_law) rfl).choose_spec.bindsN (ps := ["_law_script"]) (fun _ _ _ _ _ _ us hl => match us, hl with | [_], _ => rfl)⟩
  gOV := PySem.W.mg_of X G (He.eqO_ok (ex_of c.x.more).2.2.2.2.2.2)
  C := CW K
  gC := He.glo_ok X G (c.x.t.d.fact 50 (f := .glo "Watch") rfl)
  cl := cls_of (ex_of c.x.more).1
  Watch_init := ⟨_, _, (c.x.t.d.def_ 50 (d := d_Watch_init) rfl).choose_spec, (c.x.t.d.def_ 50 (d := d_Watch_init) rfl).choose_spec.bindsN (ps := ["self", "vault", "holders"]) (fun _ _ _ _ _ _ us hl => match us, hl with | [_, _, _], _ => rfl)⟩
  Watch_do := ⟨_, _, (c.x.t.d.def_ 51 (d := d_Watch_do) rfl).choose_spec, (c.x.t.d.def_ 51 (d := d_Watch_do) rfl).choose_spec.bindsN (ps := ["self", "edit"]) (fun _ _ _ _ _ _ us hl => match us, hl with | [_, _], _ => rfl)⟩
  Watch_back_alone := ⟨_, _, (c.x.t.d.def_ 52 (d := d_Watch_back_alone) rfl).choose_spec, (c.x.t.d.def_ 52 (d := d_Watch_back_alone) rfl).choose_spec.bindsN (ps := ["self", "place"]) (fun _ _ _ _ _ _ us hl => match us, hl with | [_, _], _ => rfl)⟩
  Watch_opened_by := ⟨_, _, (c.x.t.d.def_ 53 (d := d_Watch_opened_by) rfl).choose_spec, (c.x.t.d.def_ 53 (d := d_Watch_opened_by) rfl).choose_spec.bindsN (ps := ["self", "people"]) (fun _ _ _ _ _ _ us hl => match us, hl with | [_, _], _ => rfl)⟩
  Watch_first_open := ⟨_, _, (c.x.t.d.def_ 54 (d := d_Watch_first_open) rfl).choose_spec, (c.x.t.d.def_ 54 (d := d_Watch_first_open) rfl).choose_spec.bindsN (ps := ["self", "held"]) (fun _ _ _ _ _ _ us hl => match us, hl with | [_, _], _ => rfl)⟩
  Watch_ever_vault := ⟨_, _, (c.x.t.d.def_ 55 (d := d_Watch_ever_vault) rfl).choose_spec, (c.x.t.d.def_ 55 (d := d_Watch_ever_vault) rfl).choose_spec.bindsN (ps := ["self"]) (fun _ _ _ _ _ _ us hl => match us, hl with | [_], _ => rfl)⟩
  Watch_always_vault := ⟨_, _, (c.x.t.d.def_ 56 (d := d_Watch_always_vault) rfl).choose_spec, (c.x.t.d.def_ 56 (d := d_Watch_always_vault) rfl).choose_spec.bindsN (ps := ["self"]) (fun _ _ _ _ _ _ us hl => match us, hl with | [_], _ => rfl)⟩
  Watch_newly := ⟨_, _, (c.x.t.d.def_ 57 (d := d_Watch_newly) rfl).choose_spec, (c.x.t.d.def_ 57 (d := d_Watch_newly) rfl).choose_spec.bindsN (ps := ["self"]) (fun _ _ _ _ _ _ us hl => match us, hl with | [_], _ => rfl)⟩
  Watch_no_longer := ⟨_, _, (c.x.t.d.def_ 58 (d := d_Watch_no_longer) rfl).choose_spec, (c.x.t.d.def_ 58 (d := d_Watch_no_longer) rfl).choose_spec.bindsN (ps := ["self"]) (fun _ _ _ _ _ _ us hl => match us, hl with | [_], _ => rfl)⟩
  Watch_vault := ⟨gtr K "vault", _, (fnA_def (x := "vault") (d := d_Watch_vault) (gts_at c.g 0 (d := d_Watch_vault) rfl) rfl rfl (ex_of c.x.more).2.2.2.1).choose_spec, (fnA_def (x := "vault") (d := d_Watch_vault) (gts_at c.g 0 (d := d_Watch_vault) rfl) rfl rfl (ex_of c.x.more).2.2.2.1).choose_spec.bindsN (ps := ["self"]) (fun _ _ _ _ _ _ us hl => match us, hl with | [_], _ => rfl)⟩
  Watch_holders := ⟨gtr K "holders", _, (fnA_def (x := "holders") (d := d_Watch_holders) (gts_at c.g 1 (d := d_Watch_holders) rfl) rfl rfl (ex_of c.x.more).2.2.2.2.1).choose_spec, (fnA_def (x := "holders") (d := d_Watch_holders) (gts_at c.g 1 (d := d_Watch_holders) rfl) rfl rfl (ex_of c.x.more).2.2.2.2.1).choose_spec.bindsN (ps := ["self"]) (fun _ _ _ _ _ _ us hl => match us, hl with | [_], _ => rfl)⟩
  Watch_told := ⟨gtr K "told", _, (fnA_def (x := "told") (d := d_Watch_told) (gts_at c.g 2 (d := d_Watch_told) rfl) rfl rfl (ex_of c.x.more).2.2.2.2.2.1).choose_spec, (fnA_def (x := "told") (d := d_Watch_told) (gts_at c.g 2 (d := d_Watch_told) rfl) rfl rfl (ex_of c.x.more).2.2.2.2.2.1).choose_spec.bindsN (ps := ["self"]) (fun _ _ _ _ _ _ us hl => match us, hl with | [_], _ => rfl)⟩
  mkW := He.mkr_ok (c.x.t.d.fact 74 (f := .mkr "Watch") rfl)
  me_do := He.meth_ok (c.x.t.d.fact 75 (f := .meth "Watch" "do") rfl)
  me_back_alone := He.meth_ok (c.x.t.d.fact 76 (f := .meth "Watch" "back_alone") rfl)
  me_opened_by := He.meth_ok (c.x.t.d.fact 77 (f := .meth "Watch" "opened_by") rfl)
  me_first_open := He.meth_ok (c.x.t.d.fact 78 (f := .meth "Watch" "first_open") rfl)
  me_ever_vault := He.meth_ok (c.x.t.d.fact 79 (f := .meth "Watch" "ever_vault") rfl)
  me_always_vault := He.meth_ok (c.x.t.d.fact 80 (f := .meth "Watch" "always_vault") rfl)
  me_newly := He.meth_ok (c.x.t.d.fact 81 (f := .meth "Watch" "newly") rfl)
  me_no_longer := He.meth_ok (c.x.t.d.fact 82 (f := .meth "Watch" "no_longer") rfl)
  pr_vault := prp_of (ex_of c.x.more).2.2.2.1
  pr_holders := prp_of (ex_of c.x.more).2.2.2.2.1
  pr_told := prp_of (ex_of c.x.more).2.2.2.2.2.1
  p0 := He.ma K (CW K) "own_states"
  sl_own_states := slot_of (ex_of c.x.more).2.1 (by decide)
  p1 := He.ma K (CW K) "own_told"
  sl_own_told := slot_of (ex_of c.x.more).2.2.1 (by decide)
  m_abs := He.free_ok X G (c.x.t.d.fact 52 (f := .free "abs") rfl)
  m_all := He.free_ok X G (c.x.t.d.fact 53 (f := .free "all") rfl)
  m_any := He.free_ok X G (c.x.t.d.fact 54 (f := .free "any") rfl)
  m_bool := He.free_ok X G (c.x.t.d.fact 55 (f := .free "bool") rfl)
  m_enumerate := He.free_ok X G (c.x.t.d.fact 56 (f := .free "enumerate") rfl)
  m_int := He.free_ok X G (c.x.t.d.fact 57 (f := .free "int") rfl)
  m_isinstance := He.free_ok X G (c.x.t.d.fact 58 (f := .free "isinstance") rfl)
  m_len := He.free_ok X G (c.x.t.d.fact 59 (f := .free "len") rfl)
  m_list := He.free_ok X G (c.x.t.d.fact 60 (f := .free "list") rfl)
  m_min := He.free_ok X G (c.x.t.d.fact 61 (f := .free "min") rfl)
  m_range := He.free_ok X G (c.x.t.d.fact 62 (f := .free "range") rfl)
  m_set := He.free_ok X G (c.x.t.d.fact 63 (f := .free "set") rfl)
  m_sorted := He.free_ok X G (c.x.t.d.fact 64 (f := .free "sorted") rfl)
  m_str := He.free_ok X G (c.x.t.d.fact 65 (f := .free "str") rfl)
  m_tuple := He.free_ok X G (c.x.t.d.fact 66 (f := .free "tuple") rfl)
  m_zip := He.free_ok X G (c.x.t.d.fact 67 (f := .free "zip") rfl)
  kOPENS := He.str_ok X G (c.x.t.d.fact 68 (f := .str "OPENS" "opens") rfl)
  kBARS := He.str_ok X G (c.x.t.d.fact 69 (f := .str "BARS" "bars") rfl)
  kLOST := He.str_ok X G (c.x.t.d.fact 70 (f := .str "LOST" "lost") rfl)
  kLEFT := He.str_ok X G (c.x.t.d.fact 71 (f := .str "LEFT" "left") rfl)
  kSWAP := He.str_ok X G (c.x.t.d.fact 72 (f := .str "SWAP" "swap") rfl)
  kHAND := He.str_ok X G (c.x.t.d.fact 73 (f := .str "HAND" "hand") rfl)
end
end Vk

set_option Elab.async false
set_option linter.all false
set_option maxRecDepth 100000
set_option maxHeartbeats 0
/-! The theorem (printed by pfin.py). -/
namespace Vk
open PySem PySem.Spec PyProof.Rows L2
theorem all_ok {P : Program} {w : World} {K : PySem.W.Frag} {mg : Str → Option Value} {base : Heap} {T : Tb} (c : Code K mg) {bc : Addr} (hbc : c.by_size.fd.code = .ref bc) (TB : LamX.TabB base mg bc T.1) (hT : T.2 = "by_size.<locals>.<lambda>") :
    FnOk P w K mg base CX0 12 c.law.f c.law.fd ["_law_script"] (spD T K A_thelaw) := by
  have g_tupled := ok_tupled (P := P) (w := w) (T := T) (base := base) c 3
  have g_law_same := ok_law_same (P := P) (w := w) (T := T) (base := base) c 4
  have g_by_size := ok_by_size (P := P) (w := w) (T := T) (base := base) c hbc TB hT
  have g_set_ofS := ok_set_ofS (P := P) (w := w) (T := T) (base := base) c 
  have g_set_ofT := ok_set_ofT (P := P) (w := w) (T := T) (base := base) c 
  have g_is_within := ok_is_within (P := P) (w := w) (T := T) (base := base) c 
  have g_has_opener := ok_has_opener (P := P) (w := w) (T := T) (base := base) c g_is_within
  have g_subsets := ok_subsets (P := P) (w := w) (T := T) (base := base) c 
  have g_least_sets := ok_least_sets (P := P) (w := w) (T := T) (base := base) c g_by_size g_set_ofT g_is_within
  have g_keys_of := ok_keys_of (P := P) (w := w) (T := T) (base := base) c g_tupled
  have g_check_keys := ok_check_keys (P := P) (w := w) (T := T) (base := base) c 
  have g_check_same := ok_check_same (P := P) (w := w) (T := T) (base := base) c g_tupled
  have g_least_vault := ok_least_vault (P := P) (w := w) (T := T) (base := base) c g_tupled g_least_sets g_set_ofS
  have g_vault_of := ok_vault_of (P := P) (w := w) (T := T) (base := base) c g_check_keys g_least_vault
  have g_opens := ok_opens (P := P) (w := w) (T := T) (base := base) c g_check_keys g_has_opener
  have g_either := ok_either (P := P) (w := w) (T := T) (base := base) c g_check_same g_least_vault
  have g_both := ok_both (P := P) (w := w) (T := T) (base := base) c g_check_same g_least_vault
  have g_keys_named := ok_keys_named (P := P) (w := w) (T := T) (base := base) c g_tupled
  have g_check_edit := ok_check_edit (P := P) (w := w) (T := T) (base := base) c g_keys_of g_keys_named
  have g_with_key_more := ok_with_key_more (P := P) (w := w) (T := T) (base := base) c 
  have g_swapped := ok_swapped (P := P) (w := w) (T := T) (base := base) c 
  have g_edited_openers := ok_edited_openers (P := P) (w := w) (T := T) (base := base) c g_tupled g_with_key_more g_swapped
  have g_edited := ok_edited (P := P) (w := w) (T := T) (base := base) c g_check_edit g_tupled g_vault_of g_edited_openers
  have g_openers_of := ok_openers_of (P := P) (w := w) (T := T) (base := base) c g_tupled
  have g_new_openers := ok_new_openers (P := P) (w := w) (T := T) (base := base) c g_check_same g_openers_of g_has_opener
  have g_lost_openers := ok_lost_openers (P := P) (w := w) (T := T) (base := base) c g_new_openers
  have g_is_milder := ok_is_milder (P := P) (w := w) (T := T) (base := base) c g_lost_openers
  have g_handed := ok_handed (P := P) (w := w) (T := T) (base := base) c g_check_keys g_tupled
  have g_keys_with := ok_keys_with (P := P) (w := w) (T := T) (base := base) c g_tupled
  have g_group_opens := ok_group_opens (P := P) (w := w) (T := T) (base := base) c g_has_opener g_openers_of g_keys_with
  have g_groups_that := ok_groups_that (P := P) (w := w) (T := T) (base := base) c g_set_ofS g_tupled g_subsets g_group_opens g_least_sets
  have g_new_groups := ok_new_groups (P := P) (w := w) (T := T) (base := base) c g_groups_that
  have g_lost_groups := ok_lost_groups (P := P) (w := w) (T := T) (base := base) c g_groups_that
  have g_are_met := ok_are_met (P := P) (w := w) (T := T) (base := base) c g_group_opens
  have g_Watch_vault := ok_Watch_vault (P := P) (w := w) (base := base) c 
  have g_Watch_holders := ok_Watch_holders (P := P) (w := w) (base := base) c 
  have g_Watch_told := ok_Watch_told (P := P) (w := w) (T := T) (base := base) c 
  have g_Watch_opened_by := ok_Watch_opened_by (P := P) (w := w) (T := T) (base := base) c g_Watch_vault g_Watch_holders g_opens
  have g_Watch_first_open := ok_Watch_first_open (P := P) (w := w) (T := T) (base := base) c g_opens
  have g_Watch_ever_vault := ok_Watch_ever_vault (P := P) (w := w) (T := T) (base := base) c g_either
  have g_Watch_always_vault := ok_Watch_always_vault (P := P) (w := w) (T := T) (base := base) c g_both
  have g_Watch_newly := ok_Watch_newly (P := P) (w := w) (T := T) (base := base) c g_Watch_vault g_opens
  have g_Watch_no_longer := ok_Watch_no_longer (P := P) (w := w) (T := T) (base := base) c g_Watch_vault g_opens
  have g_Watch_init := ok_Watch_init (P := P) (w := w) (T := T) (base := base) c g_tupled
  have g_Watch_do := ok_Watch_do (P := P) (w := w) (T := T) (base := base) c g_Watch_vault g_Watch_holders g_edited g_tupled
  have g_Watch_back_alone := ok_Watch_back_alone (P := P) (w := w) (T := T) (base := base) c g_Watch_do
  have g_take := ok_take (P := P) (w := w) (T := T) (base := base) c 
  have g_law_kit := ok_law_kit (P := P) (w := w) (T := T) (base := base) c 
  have g_law_lots := ok_law_lots (P := P) (w := w) (T := T) (base := base) c 
  have g_law_least := ok_law_least (P := P) (w := w) (T := T) (base := base) c 
  have g_law_ofL := ok_law_ofL (P := P) (w := w) (T := T) (base := base) c g_take
  have g_law_ofT := ok_law_ofT (P := P) (w := w) (T := T) (base := base) c g_take
  have g_law_pick := ok_law_pick (P := P) (w := w) (T := T) (base := base) c g_take
  have g_law_names := ok_law_names (P := P) (w := w) (T := T) (base := base) c g_law_pick
  have g_law_holders := ok_law_holders (P := P) (w := w) (T := T) (base := base) c g_law_ofL
  have g_law_vault := ok_law_vault (P := P) (w := w) (T := T) (base := base) c g_take g_law_least
  have g_law_edit := ok_law_edit (P := P) (w := w) (T := T) (base := base) c g_law_ofL g_law_ofT g_take
  have g_law_box := ok_law_box (P := P) (w := w) (T := T) (base := base) c 
  have g_law_cells := ok_law_cells (P := P) (w := w) (T := T) (base := base) c 
  have g_law_state_right := ok_law_state_right (P := P) (w := w) (T := T) (base := base) c g_Watch_vault g_Watch_holders g_Watch_newly g_Watch_no_longer g_Watch_ever_vault g_Watch_always_vault g_Watch_opened_by g_Watch_first_open g_Watch_init g_either g_both g_new_openers g_lost_openers g_is_milder g_are_met g_new_groups g_lost_groups g_opens g_law_lots g_law_same
  have g_law_case_right := ok_law_case_right (P := P) (w := w) (T := T) (base := base) c g_Watch_init g_Watch_do g_Watch_back_alone g_Watch_told g_edited g_handed g_law_state_right
  have g_law_by_hand_right := ok_law_by_hand_right (P := P) (w := w) (T := T) (base := base) c g_law_kit g_law_case_right g_Watch_vault g_Watch_holders g_Watch_newly g_Watch_no_longer g_Watch_opened_by g_Watch_init g_Watch_do g_new_openers g_lost_openers g_new_groups g_law_same
  have g_law_right := ok_law_right (P := P) (w := w) (T := T) (base := base) c g_law_names g_law_edit g_take g_law_vault g_law_holders g_law_case_right
  have g_law := ok_law (P := P) (w := w) (T := T) (base := base) c g_law_by_hand_right g_law_cells g_law_box g_law_right
  exact g_law
theorem tok_empty {H : Hp} {p : Addr} {q : Str} (h : H p = some (.tbl #[])) : LamX.TabS H p q := ⟨#[], h, (by first | trivial | (unfold PySem.TriplesOk; trivial) | simp [TriplesOk]), fun pos cv e => (by cases e)⟩
theorem sp_law {K : PySem.W.Frag} {T : Tb} {H : Hp} {a : Addr} {ns : List Int} (hT : H T.1 = some (.tbl #[])) (hS : SqL K H a (ns.map V.int)) : spD T K A_thelaw [.ref a] H (fun v _ => v = .bl true) fun _ _ _ => False := by
  have main : ∀ B : Hp, Fz B H → SqL K B a (ns.map V.int) → spD T K A_thelaw [.ref a] H (fun v _ => v = .bl true) fun _ _ _ => False := fun B f s =>
    ⟨B, [.list (ns.map .int)], .bool true, f, tok_empty hT, .cons (.lst s (dp_ints ns)) .nil, ⟨ns, rfl, rfl⟩, fun v B' H' _ r => by cases r; rfl⟩
  rcases hS with (h | ⟨o, h⟩) | h
  · exact main (upd (fun _ => none) a (.lst (ns.map V.int))) (Fz.withL (fun _ _ e => by cases e) noT_lst h) (.inl (.inl upd_same))
  · exact main (upd (fun _ => none) a (.frz o (.lst (ns.map V.int)))) (Fz.withL (fun _ _ e => by cases e) (fun _ z => nomatch z) h) (.inl (.inr ⟨o, upd_same⟩))
  · exact main (fun _ => none) (fun _ _ e => by cases e) (.inr h)
theorem code_at {K : PySem.W.Frag} {x q : Str} {pr : Arguments} {b : List Stmt} {sc : Scope} {fd : FuncData} {p : Str × Option Str} (F : FunD K x q pr b sc [] [] (He.fAd K p) fd) : fd.code = .ref (He.codeOf K p) := by
  obtain ⟨oc, od, dV, kV, doc, pm, an, cdv, ct, osl, rfl, lk, hcd, hD, hK⟩ := F.ex
  unfold PySem.W.codeIn at hcd
  cases cdv with
  | ref cc => exact congrArg Value.ref (He.codeOf_eq lk rfl).symm
  | _ => cases hcd
end Vk
open PySem PySem.W PySem.Calls PyProof.Rows
theorem PySem.Challenge.cw_vaultkeys_k96_whole_watches_beside_chang_holds : PySem.Challenge.rw_vaultkeys_k96_whole_watches_beside_chang.Holds := by
  w_on; o_law
  refine HandSHeadRun.head_any (r := OpenLaw.row PySem.Challenge.rw_vaultkeys_k96_whole_watches_beside_chang) (q := view (OpenLaw.row PySem.Challenge.rw_vaultkeys_k96_whole_watches_beside_chang).prog [69]) (H := Vk.hookW) (ob := Vk.obW) (M := 6000) (loose := Vk.loose) (d := HandSHeadRun.topDef (OpenLaw.row PySem.Challenge.rw_vaultkeys_k96_whole_watches_beside_chang).prog 69) (kwd := []) Vk.obW_eq
    (by kernel_rfl) (fun s => by kernel_rfl) Vk.run (by kernel_rfl) (by kernel_rfl) (by kernel_rfl) (by rfl) (by first | assumption | decide +kernel) (by decide +kernel) ⟨rfl, rfl, rfl, rfl, rfl, by decide +kernel⟩ ?hw ?hc
  case hw => w_witness2
  case hc =>
    refine LamX.walk_ofTsE (l := PySem.Challenge.rw_vaultkeys_k96_whole_watches_beside_chang) (n := 63) (k := 12) (x := "_law_script") (CX := fun _ => L2.CX0) rfl (by decide) (by kernel_rfl) ⟨rfl, by decide, by decide⟩ ?F (fun _ _ _ _ _ z => z)
    intro w mg fa h Y G hmg0
    obtain ⟨K, KX, c⟩ := Y
    have hmg : mg ("law" : PySem.Str) = some (.ref fa) := by
      have e : (HandSHeadRun.topDef (OpenLaw.row PySem.Challenge.rw_vaultkeys_k96_whole_watches_beside_chang).prog 69).name = ("law" : PySem.Str) := by kernel_rfl
      rw [← e]
      exact hmg0
    have e := hmg.symm.trans (Vk.codeOfHead KX G c).law.g
    cases e
    have mtf : (("by_size" : PySem.Str), (none : Option PySem.Str)) ∈ Vk.tf := by unfold Vk.tf; simp
    have hbc := Vk.code_at (p := ("by_size", none)) (Vk.codeOfHead KX G c).by_size.F
    refine ⟨K, KX, (Vk.codeOfHead KX G c).law.fd, [He.cT K ("by_size", none)], Vk.spD ((He.cT K ("by_size", none)).2, "by_size.<locals>.<lambda>") K Vk.A_thelaw, ?_, ?_, ?_, ?_, ?_, ?_⟩
    · intro p hp; rw [List.mem_singleton.mp hp]; exact c.x.empty _ mtf
    · intro p hp; rw [List.mem_singleton.mp hp]; exact c.x.out _ mtf
    · intro p hp; rw [List.mem_singleton.mp hp]; exact PySem.W.codeHd_of_K KX (c.x.hd _ mtf)
    · intro s u; exact (Vk.codeOfHead KX G c).law.F.bindsA (ps := ["_law_script"]) (fun _ _ _ _ _ _ us hl => match us, hl with | [_], _ => rfl) s [u] rfl
    · intro H a ns hl hb hT hS; exact Vk.sp_law (hT _ (List.mem_singleton.mpr rfl)) hS
    · intro base Kb Gb TB
      exact Vk.all_ok (T := ((He.cT K ("by_size", none)).2, "by_size.<locals>.<lambda>")) (Vk.codeOfHead KX G c) hbc (TB _ (List.mem_singleton.mpr rfl)) rfl


