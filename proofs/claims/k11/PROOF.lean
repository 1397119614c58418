import PyProof.Rows.All
import Wide.All
import OpenK.AllK
import Wide.FinOn
import PySem.Challenge.RW_driftstore_k11_whole_texts
import HandS.ForMost
import HandS.Exc
import HandS.ExcOwn
import HandS.WordsExc
import HandS.Lambda
import HandS.AnyAll
import HandS.IsInst
import HandS.Zip
import HandS.TupAny
import KE.GoesEnum
import HandS.GenList
import HandS.SortKw
import HandS.TupSets
import HandS.ExcInit
import HandS.ExcField
import PyProof.StrOps2
import PyProof.StrLawsTight
import HandS.RaiseMore
import KE.IntTextLaws
import HandS.Steps
import HandS.TryMany
import HandS.Text
import HandS.EndTab
import HandS.EndOwn
import HandS.Defaults
set_option Elab.async false
set_option linter.all false
set_option maxRecDepth 100000
set_option maxHeartbeats 4000000
/-! K11A: data, what represents it, how heaps extend, what a reading evaluates to. -/
namespace K11
open PySem PySem.Spec PyProof.Rows
open L2
/-! ### data -/
inductive D where
  | non | bl (b : Bool) | int (i : Int) | str (s : Str) | lst (l : List D) | tup (l : List D) | row (b a : Addr) (ns : List Int)
/-- the shape of the law's own row of draws -/
def rowish : List V → Bool
  | [.ref _, .int _, .int _, .int _] => true
  | _ => false
def gst : HO → Bool
  | .tbl _ => true
  | .lst xs => rowish xs
  | _ => false
section
variable (K : PySem.W.Frag) (T : List (Addr × Str))
/-- the row of draws at b, over the script ns at a -/
def RowG (H : Hp) (b a : Addr) (ns : List Int) : Prop := ∃ (i j k : Int), H b = some (.lst [.ref a, .int i, .int j, .int k]) ∧ SqL K H a (ns.map V.int) ∧ 0 ≤ i ∧ 0 ≤ j ∧ j < 2147483647 ∧ 0 ≤ k
mutual
def Rp (H : Hp) : D → V → Prop
  | .non, v => v = .non
  | .bl b, v => v = .bl b
  | .int i, v => v = .int i
  | .str s, v => v = .str s
  | .lst l, v => ∃ a xs, v = .ref a ∧ H a = some (.lst xs) ∧ rowish xs = false ∧ RpL H l xs
  | .tup l, v => ∃ a xs, v = .ref a ∧ SqT K H a xs ∧ RpL H l xs
  | .row b a ns, v => v = .ref b ∧ RowG K H b a ns
def RpL (H : Hp) : List D → List V → Prop
  | [], [] => True
  | d :: l, x :: xs => Rp H d x ∧ RpL H l xs
  | _, _ => False
end
structure Ex (H H' : Hp) : Prop where
  keep : ∀ b o, H b = some o → gst o = false → H' b = some o
  tab : ∀ b, GxR.TabG H b → GxR.TabG H' b
  row : ∀ b a ns, RowG K H b a ns → RowG K H' b a ns
  lam : LamX.Tabs T H → LamX.Tabs T H'
  has : ∀ b, H' b = none → H b = none
end
section
variable {K : PySem.W.Frag} {T : List (Addr × Str)} {H H' H1 H2 : Hp}
theorem Ex.refl (H : Hp) : Ex K T H H := ⟨fun _ _ h _ => h, fun _ h => h, fun _ _ _ h => h, fun h => h, fun _ h => h⟩
theorem Ex.trans (a : Ex K T H H1) (b : Ex K T H1 H2) : Ex K T H H2 :=
  ⟨fun x o h g => b.keep x o (a.keep x o h g) g, fun x h => b.tab x (a.tab x h), fun x c ns h => b.row x c ns (a.row x c ns h), fun h => b.lam (a.lam h), fun x h => a.has x (b.has x h)⟩
theorem ex_rd {a : Addr} {u : HO} (e : Ex K T H H') (g : gst u = false) (h : Rd H a u) : Rd H' a u := by
  rcases h with h | ⟨o, h⟩
  · exact .inl (e.keep _ _ h g)
  · exact .inr ⟨o, e.keep _ _ h rfl⟩
theorem ex_sl {a : Addr} {xs : List V} (e : Ex K T H H') (g : rowish xs = false) (h : SqL K H a xs) : SqL K H' a xs := by
  rcases h with h | h
  · exact .inl (ex_rd e g h)
  · exact .inr h
theorem ex_st {a : Addr} {xs : List V} (e : Ex K T H H') (h : SqT K H a xs) : SqT K H' a xs := by
  rcases h with h | h
  · exact .inl (ex_rd e rfl h)
  · exact .inr h
mutual
theorem ex_rp (e : Ex K T H H') : ∀ (d : D) (v : V), Rp K H d v → Rp K H' d v
  | .non, _, h => h
  | .bl _, _, h => h
  | .int _, _, h => h
  | .str _, _, h => h
  | .lst l, _, ⟨a, xs, e1, h1, g, h2⟩ => ⟨a, xs, e1, e.keep _ _ h1 g, g, ex_rpl e l xs h2⟩
  | .tup l, _, ⟨a, xs, e1, h1, h2⟩ => ⟨a, xs, e1, ex_st e h1, ex_rpl e l xs h2⟩
  | .row b a ns, _, ⟨e1, h1⟩ => ⟨e1, e.row b a ns h1⟩
theorem ex_rpl (e : Ex K T H H') : ∀ (l : List D) (xs : List V), RpL K H l xs → RpL K H' l xs
  | [], [], h => h
  | d :: l, x :: xs, ⟨h1, h2⟩ => ⟨ex_rp e d x h1, ex_rpl e l xs h2⟩
  | [], _ :: _, h => h
  | _ :: _, [], h => h
end
theorem rowish_int (ns : List Int) : rowish (ns.map V.int) = false := by
  cases ns <;> rfl
theorem sl_upd {p a : Addr} {o : HO} {xs : List V} (hp : H p = none) (h : SqL K H a xs) : SqL K (upd H p o) a xs := by
  rcases h with (h | ⟨u, h⟩) | h
  · exact .inl (.inl ((upd_ne (ne_of_none h hp)).trans h))
  · exact .inl (.inr ⟨u, (upd_ne (ne_of_none h hp)).trans h⟩)
  · exact .inr h
theorem Ex.new {p : Addr} {o : HO} (hp : H p = none) : Ex K T H (upd H p o) := by
  have k : ∀ b u, H b = some u → upd H p o b = some u := fun b u h => (upd_ne (ne_of_none h hp)).trans h
  refine ⟨fun b u h _ => k b u h, fun b ⟨ps, h, t⟩ => ⟨ps, k b _ h, t⟩, fun b a ns ⟨i, j, c, h, hs, r⟩ => ⟨i, j, c, k b _ h, sl_upd hp hs, r⟩, fun h => h.ext k, fun b h => ?_⟩
  cases q : H b with
  | none => rfl
  | some u =>
    rw [k b u q] at h
    cases h
/-- a list that H does not know has changed -/
theorem Ex.mut {p : Addr} {o : HO} {ys : List V} (e : Ex K T H H') (hp : H p = none) (h' : H' p = some (.lst ys)) (g : rowish ys = false) : Ex K T H (upd H' p o) := by
  have k : ∀ b u, b ≠ p → H' b = some u → upd H' p o b = some u := fun b u h q => (upd_ne h).trans q
  have np : ∀ b u, H b = some u → b ≠ p := fun b u h => ne_of_none h hp
  refine ⟨fun b u h g => k b u (np b u h) (e.keep b u h g), fun b t => ?_, fun b a ns r => ?_, fun t q hq => ?_, fun b h => ?_⟩
  · obtain ⟨ps, h, _⟩ := id t
    obtain ⟨ps', h2, t2⟩ := e.tab b t
    exact ⟨ps', k b _ (np b _ h) h2, t2⟩
  · obtain ⟨_, _, _, h, hs, _⟩ := id r
    obtain ⟨i, j, c, h2, _, r2⟩ := e.row b a ns r
    refine ⟨i, j, c, k b _ (np b _ h) h2, ?_, r2⟩
    rcases hs with (h | ⟨u, h⟩) | h
    · exact .inl (.inl (k a _ (np a _ h) (e.keep a _ h (rowish_int ns))))
    · exact .inl (.inr ⟨u, k a _ (np a _ h) (e.keep a _ h rfl)⟩)
    · exact .inr h
  · obtain ⟨ps, h, h1, h2⟩ := t q hq
    obtain ⟨ps', x, g1, g2⟩ := e.lam t q hq
    refine ⟨ps', k _ _ (np _ _ h) x, g1, fun pos cv hc => ?_⟩
    obtain ⟨c, e1, e2⟩ := g2 pos cv hc
    refine ⟨c, e1, k c _ (fun z => ?_) e2⟩
    rw [z, h'] at e2
    cases e2
  · by_cases z : b = p
    · rw [z]
      exact hp
    · rw [upd_ne z] at h
      exact e.has b h
/-! ### views: a part of the heap that a value stands in -/
noncomputable def rs (S : Addr → Prop) (H : Hp) : Hp := fun b => by
  classical exact if S b then H b else none
theorem rs_in {S : Addr → Prop} {b : Addr} (h : S b) : rs S H b = H b := by
  unfold rs
  exact if_pos h
theorem rs_out {S : Addr → Prop} {b : Addr} (h : ¬ S b) : rs S H b = none := by
  unfold rs
  exact if_neg h
theorem rs_some {S : Addr → Prop} {b : Addr} {o : HO} (h : rs S H b = some o) : S b ∧ H b = some o := by
  by_cases q : S b
  · rw [rs_in q] at h
    exact ⟨q, h⟩
  · rw [rs_out q] at h
    cases h
theorem sl_sub {W : Hp} (k : ∀ b o, W b = some o → H b = some o) {a : Addr} {xs : List V} (h : SqL K W a xs) : SqL K H a xs := by
  rcases h with (h | ⟨u, h⟩) | h
  · exact .inl (.inl (k _ _ h))
  · exact .inl (.inr ⟨u, k _ _ h⟩)
  · exact .inr h
/-- what holds in a part holds in the whole -/
theorem Ex.sub {W : Hp} (k : ∀ b o, W b = some o → H b = some o) : Ex K T W H := by
  refine ⟨fun b o h _ => k b o h, fun b ⟨ps, h, t⟩ => ⟨ps, k b _ h, t⟩, fun b a ns ⟨i, j, c, h, hs, r⟩ => ⟨i, j, c, k b _ h, sl_sub k hs, r⟩, fun h => h.ext k, fun b h => ?_⟩
  cases q : W b with
  | none => rfl
  | some u =>
    rw [k b u q] at h
    cases h
theorem Ex.rs {S : Addr → Prop} : Ex K T (rs S H) H := Ex.sub fun _ _ h => (rs_some h).2
/-- into a part that holds all of it -/
theorem Ex.inRs {A : Hp} {S : Addr → Prop} (e : Ex K T A H) (h : ∀ b, A b ≠ none → S b) (hc : ∀ b q, H b = some (LamX.CodeO b q) → S b) : Ex K T A (K11.rs S H) := by
  have ns : ∀ {b : Addr} {o : HO}, A b = some o → S b := fun {b o} q => h b (by rw [q]; simp)
  refine ⟨fun b o q g => (rs_in (ns q)).trans (e.keep b o q g), fun b t => ?_, fun b a l t => ?_, fun t q hq => ?_, fun b q => ?_⟩
  · obtain ⟨ps, q, _⟩ := id t
    obtain ⟨ps', q2, t2⟩ := e.tab b t
    exact ⟨ps', (rs_in (ns q)).trans q2, t2⟩
  · obtain ⟨_, _, _, q, hs, _⟩ := id t
    obtain ⟨i, j, c, q2, hs2, r2⟩ := e.row b a l t
    refine ⟨i, j, c, (rs_in (ns q)).trans q2, ?_, r2⟩
    rcases hs with (hs | ⟨u, hs⟩) | hs
    · exact .inl (.inl ((rs_in (ns hs)).trans (e.keep _ _ hs (rowish_int l))))
    · exact .inl (.inr ⟨u, (rs_in (ns hs)).trans (e.keep _ _ hs rfl)⟩)
    · exact .inr hs
  · obtain ⟨ps, q1, h1, h2⟩ := t q hq
    obtain ⟨ps', q2, g1, g2⟩ := e.lam t q hq
    refine ⟨ps', (rs_in (ns q1)).trans q2, g1, fun pos cv hc' => ?_⟩
    obtain ⟨c, e1, e2⟩ := g2 pos cv hc'
    exact ⟨c, e1, (rs_in (hc c _ e2)).trans e2⟩
  · cases z : A b with
    | none => rfl
    | some o =>
      rw [rs_in (ns z)] at q
      rw [e.has b q] at z
      cases z
variable (K T) in
/-- a step from H1 to H2; W: what was known; W': what is known behind it (of what H1 held no more than W knew) -/
structure Vw (W H1 W' H2 : Hp) : Prop where
  up : Ex K T W W'
  dn : ∀ b o, W' b = some o → H2 b = some o
  ac : Ex K T H1 H2
  fr : ∀ b o, W' b = some o → (∀ q, o ≠ LamX.CodeO b q) → W b = none → H1 b = none
noncomputable def wv (W H1 H2 : Hp) : Hp := rs (fun b => (∃ q, H2 b = some (LamX.CodeO b q)) ∨ W b ≠ none ∨ H1 b = none) H2
section
variable {W W1 W2 W3 W' H3 : Hp}
theorem Vw.to (z : Vw K T W H1 W' H2) : Ex K T W' H2 := Ex.sub z.dn
theorem Vw.mk0 (e : Ex K T W H1) (e2 : Ex K T H1 H2) : Vw K T W H1 (wv W H1 H2) H2 := by
  refine ⟨(e.trans e2).inRs (fun b h => .inr (.inl h)) fun b q h => .inl ⟨q, h⟩, fun b o h => (rs_some h).2, e2, fun b o h nc hw => ?_⟩
  obtain ⟨h1 | h1 | h1, h2⟩ := rs_some h
  · obtain ⟨q, h1⟩ := h1
    rw [h1] at h2
    exact absurd (Option.some.inj h2).symm (nc q)
  · exact absurd hw h1
  · exact h1
theorem Vw.trans (z : Vw K T W H1 W2 H2) (y : Vw K T W2 H2 W3 H3) : Vw K T W H1 W3 H3 := by
  refine ⟨z.up.trans y.up, y.dn, z.ac.trans y.ac, fun b o h nc hw => ?_⟩
  cases q : W2 b with
  | none => exact z.ac.has b (y.fr b o h nc q)
  | some u =>
    refine z.fr b u q (fun r hr => ?_) hw
    have k := y.up.keep b u q (by rw [hr]; rfl)
    rw [h] at k
    rw [← Option.some.inj k] at hr
    exact nc r hr
/-- the widest view behind a step -/
theorem Vw.wide (z : Vw K T W H1 W' H2) (e : Ex K T W W1) (e1 : Ex K T W1 H1) : Vw K T W1 H1 (wv W1 H1 H2) H2 ∧ Ex K T W' (wv W1 H1 H2) := by
  refine ⟨Vw.mk0 e1 z.ac, z.to.inRs (fun b h => ?_) fun b q h => .inl ⟨q, h⟩⟩
  cases q : W' b with
  | none => exact absurd q h
  | some o =>
    by_cases nc : ∃ q, o = LamX.CodeO b q
    · obtain ⟨r, nc⟩ := nc
      exact .inl ⟨r, by rw [← nc]; exact z.dn b o q⟩
    · by_cases hw : W b = none
      · exact .inr (.inr (z.fr b o q (fun r hr => nc ⟨r, hr⟩) hw))
      · exact .inr (.inl fun hw' => hw (e.has b hw'))
theorem Vw.same (e : Ex K T W H1) : Vw K T W H1 (wv W H1 H1) H1 := Vw.mk0 e (Ex.refl H1)
theorem Vw.new {p : Addr} {o : HO} (e : Ex K T W H1) (hp : H1 p = none) : Vw K T W H1 (wv W H1 (upd H1 p o)) (upd H1 p o) := Vw.mk0 e (Ex.new hp)
theorem wv_new {p : Addr} {o : HO} (hp : H1 p = none) : wv W H1 (upd H1 p o) p = some o := (rs_in (.inr (.inr hp))).trans upd_same
/-- what H1 holds and W does not know is not known later -/
theorem Vw.not {p : Addr} {xs : List V} (z : Vw K T W H1 W' H2) (hw : W p = none) (h1 : H1 p ≠ none) (h2 : H2 p = some (.lst xs)) : W' p = none := by
  cases q : W' p with
  | none => rfl
  | some o =>
    have k := z.dn p o q
    rw [h2] at k
    refine absurd (z.fr p o q (fun r hr => ?_) hw) h1
    rw [← Option.some.inj k] at hr
    cases hr
variable (K T) in
/-- behind some statements of a def that was entered at H with W0 known: W is known now, H' is the heap -/
structure Vv (W0 H W H' : Hp) : Prop where
  up : Ex K T W0 W
  to : Ex K T W H'
  ac : Ex K T H H'
  fr : ∀ b o, W b = some o → (∀ q, o ≠ LamX.CodeO b q) → W0 b = none → H b = none
theorem Vv.start {W0 : Hp} (e : Ex K T W0 H) : Vv K T W0 H W0 H := ⟨Ex.refl _, e, Ex.refl _, fun b o h _ h0 => by rw [h] at h0; cases h0⟩
theorem Vw.vv (z : Vw K T W H1 W' H2) : Vv K T W H1 W' H2 := ⟨z.up, z.to, z.ac, z.fr⟩
theorem Vv.step {W0 : Hp} (y : Vv K T W0 H W H1) (z : Vw K T W H1 W' H2) : Vv K T W0 H W' H2 := by
  refine ⟨y.up.trans z.up, z.to, y.ac.trans z.ac, fun b o h nc hw => ?_⟩
  cases q : W b with
  | none => exact y.ac.has b (z.fr b o h nc q)
  | some u =>
    refine y.fr b u q (fun r hr => ?_) hw
    have k := z.up.keep b u q (by rw [hr]; rfl)
    rw [h] at k
    rw [← Option.some.inj k] at hr
    exact nc r hr
/-- a list that only the def knows is changed -/
theorem Vv.mut {W0 : Hp} {p : Addr} {o : HO} {ys : List V} (y : Vv K T W0 H W H1) (hp : W p = none) (h0 : H p = none) (h1 : H1 p = some (.lst ys)) (g : rowish ys = false) : Vv K T W0 H W (upd H1 p o) :=
  ⟨y.up, y.to.mut hp h1 g, y.ac.mut h0 h1 g, y.fr⟩
/-- a list that only the def knows is made -/
theorem Vv.own {W0 : Hp} {p : Addr} {o : HO} (y : Vv K T W0 H W H1) (hp : H1 p = none) : Vv K T W0 H W (upd H1 p o) ∧ W p = none ∧ H p = none :=
  ⟨⟨y.up, y.to.trans (Ex.new hp), y.ac.trans (Ex.new hp), y.fr⟩, y.to.has p hp, y.ac.has p hp⟩
/-- the end: what is known is handed on -/
theorem Vv.fin {W0 : Hp} (y : Vv K T W0 H W H') (e : Ex K T W0 H) : Vw K T W0 H (wv W0 H H') H' ∧ Ex K T W (wv W0 H H') := by
  refine ⟨Vw.mk0 e y.ac, y.to.inRs (fun b h => ?_) fun b q h => .inl ⟨q, h⟩⟩
  cases q : W b with
  | none => exact absurd q h
  | some o =>
    by_cases nc : ∃ q, o = LamX.CodeO b q
    · obtain ⟨r, nc⟩ := nc
      exact .inl ⟨r, y.to.keep b _ (by rw [q, nc]) rfl⟩
    · by_cases hw : W0 b = none
      · exact .inr (.inr (y.fr b o q (fun r hr => nc ⟨r, hr⟩) hw))
      · exact .inr (.inl hw)
end
end
end K11
/-! K11B: what a reading evaluates to. -/
namespace K11
open PySem PySem.Spec
open L2
section
variable (K : PySem.W.Frag) (T : List (Addr × Str))
/-- a value that stands for one of A is handed on; W is what is known -/
def EvE (te : TE) (σ : L2.St) (W : Hp) (A : D → Prop) : Prop := ∀ H1, Ex K T W H1 → ∀ Q : VK, (∀ d v W' H2, A d → Vw K T W H1 W' H2 → Rp K W' d v → Q v H2) → te σ H1 Q
abbrev Ev (te : TE) (σ : L2.St) (W : Hp) (d : D) : Prop := EvE K T te σ W (fun x => x = d)
def EvT (t : TT) (σ : L2.St) (W : Hp) (B : Bool → Prop) : Prop := ∀ H1, Ex K T W H1 → ∀ Q : Bool → Hp → Prop, (∀ b W' H2, B b → Vw K T W H1 W' H2 → Q b H2) → t σ H1 Q
def EvA (t : TA) (σ : L2.St) (W : Hp) (A : List D → Prop) : Prop := ∀ H1, Ex K T W H1 → ∀ Q : List V → Hp → Prop, (∀ ds vs W' H2, A ds → Vw K T W H1 W' H2 → RpL K W' ds vs → Q vs H2) → t σ H1 Q
def EvO (t : TO) (σ : L2.St) (W : Hp) (o : Option Int) : Prop := ∀ H1, Ex K T W H1 → ∀ Q : Option Int → Hp → Prop, (∀ W' H2, Vw K T W H1 W' H2 → Q o H2) → t σ H1 Q
/-- an operation on values -/
def Rv (r : R2) (W : Hp) (a b : D) (C : D → Prop) : Prop := ∀ x y W1 H1, Ex K T W W1 → Ex K T W1 H1 → Rp K W1 a x → Rp K W1 b y → ∀ Q : VK, (∀ d v W' H2, C d → Vw K T W1 H1 W' H2 → Rp K W' d v → Q v H2) → r x y H1 Q
def Ru (r : V → Hp → VK → Prop) (W : Hp) (a : D) (C : D → Prop) : Prop := ∀ x W1 H1, Ex K T W W1 → Ex K T W1 H1 → Rp K W1 a x → ∀ Q : VK, (∀ d v W' H2, C d → Vw K T W1 H1 W' H2 → Rp K W' d v → Q v H2) → r x H1 Q
def Rc (r : List V → Hp → VK → Prop) (W : Hp) (ds : List D) (C : D → Prop) : Prop := ∀ vs W1 H1, Ex K T W W1 → Ex K T W1 H1 → RpL K W1 ds vs → ∀ Q : VK, (∀ d v W' H2, C d → Vw K T W1 H1 W' H2 → Rp K W' d v → Q v H2) → r vs H1 Q
end
section
variable {K : PySem.W.Frag} {T : List (Addr × Str)} {σ : L2.St} {W W' : Hp} {ta tb tc te : TE} {t u : TT} {A B C : D → Prop} {a b c d : D} {r : R2} {i j : Int} {k : Bool}
theorem EvE.mono (h : EvE K T te σ W A) (e : Ex K T W W') : EvE K T te σ W' A := fun H1 e1 Q q => h H1 (e.trans e1) Q fun d v W2 H2 hd z r =>
  let y := z.wide e e1
  q d v _ H2 hd y.1 (ex_rp y.2 d v r)
theorem EvT.mono {B : Bool → Prop} (h : EvT K T t σ W B) (e : Ex K T W W') : EvT K T t σ W' B := fun H1 e1 Q q => h H1 (e.trans e1) Q fun b W2 H2 hb z => q b _ H2 hb (z.wide e e1).1
theorem EvA.mono {t : TA} {B : List D → Prop} (h : EvA K T t σ W B) (e : Ex K T W W') : EvA K T t σ W' B := fun H1 e1 Q q => h H1 (e.trans e1) Q fun d v W2 H2 hd z r =>
  let y := z.wide e e1
  q d v _ H2 hd y.1 (ex_rpl y.2 d v r)
theorem EvO.mono {t : TO} {o : Option Int} (h : EvO K T t σ W o) (e : Ex K T W W') : EvO K T t σ W' o := fun H1 e1 Q q => h H1 (e.trans e1) Q fun W2 H2 z => q _ H2 (z.wide e e1).1
theorem EvE.imp (h : EvE K T te σ W A) (q : ∀ d, A d → B d) : EvE K T te σ W B := fun H1 e1 Q k => h H1 e1 Q fun d v W2 H2 hd => k d v W2 H2 (q d hd)
theorem EvE.is (h : Ev K T te σ W c) (e : c = d) : Ev K T te σ W d := by
  rw [← e]
  exact h
theorem rp_i {n : Int} : Rp K W (.int n) (.int n) := rfl
theorem rp_s {s : Str} : Rp K W (.str s) (.str s) := rfl
theorem rp_b {n : Bool} : Rp K W (.bl n) (.bl n) := rfl
theorem rp_n : Rp K W .non .non := rfl
theorem ev_var {n : Nat} {v : V} (h : σ[n]? = some (some v)) (r : Rp K W d v) : Ev K T (tVar n) σ W d := fun H1 e _ q => ⟨v, h, q d v _ H1 rfl (Vw.same e) (ex_rp (Vw.same e).up d v r)⟩
theorem ev_c {v : V} (r : Rp K W d v) : Ev K T (tC v) σ W d := fun H1 e _ q => q d v _ H1 rfl (Vw.same e) (ex_rp (Vw.same e).up d v r)
theorem ev_int : Ev K T (tC (.int i)) σ W (.int i) := ev_c rp_i
theorem ev_str {s : Str} : Ev K T (tC (.str s)) σ W (.str s) := ev_c rp_s
theorem ev_bl : Ev K T (tC (.bl k)) σ W (.bl k) := ev_c rp_b
theorem ev_non : Ev K T (tC .non) σ W .non := ev_c rp_n
/-! ### operations -/
theorem eve_op {B : D → D → Prop} (ha : EvE K T ta σ W A) (hb : ∀ a, A a → EvE K T tb σ W (B a)) (hr : ∀ a b, A a → B a b → Rv K T r W a b C) : EvE K T (tOp r ta tb) σ W C := fun H1 e Q q =>
  ha H1 e _ fun a x W2 H2 ha z2 rx => ((hb a ha).mono z2.up) H2 z2.to _ fun b y W3 H3 hb z3 ry =>
    hr a b ha hb x y W3 H3 (z2.up.trans z3.up) z3.to (ex_rp z3.up a x rx) ry Q fun d v W4 H4 hd z4 rv => q d v W4 H4 hd ((z2.trans z3).trans z4) rv
theorem ev_op (ha : Ev K T ta σ W a) (hb : Ev K T tb σ W b) (hr : Rv K T r W a b C) : EvE K T (tOp r ta tb) σ W C := by
  refine eve_op (B := fun _ x => x = b) ha (fun _ _ => hb) ?_
  rintro x y rfl rfl
  exact hr
theorem eve_un {r : V → Hp → VK → Prop} (ha : EvE K T ta σ W A) (hr : ∀ a, A a → Ru K T r W a C) : EvE K T (tUn r ta) σ W C := fun H1 e Q q =>
  ha H1 e _ fun a x W2 H2 ha z2 rx => hr a ha x W2 H2 z2.up z2.to rx Q fun d v W3 H3 hd z3 rv => q d v W3 H3 hd (z2.trans z3) rv
theorem ev_un {r : V → Hp → VK → Prop} (ha : Ev K T ta σ W a) (hr : Ru K T r W a C) : EvE K T (tUn r ta) σ W C := by
  refine eve_un ha ?_
  rintro x rfl
  exact hr
theorem rv_0 {g : Int → Int → V} {f : Int → Int → D} (h : ∀ H : Hp, Rp K H (f i j) (g i j)) : Rv K T (rI0 g) W (.int i) (.int j) (fun d => d = f i j) := by
  rintro x y W1 H1 _ e rfl rfl Q q
  exact ⟨i, j, rfl, rfl, q _ _ _ H1 rfl (Vw.same e) (h _)⟩
theorem rv_I {P : Int → Int → Prop} {g : Int → Int → V} {f : Int → Int → D} (hp : P i j) (h : ∀ H : Hp, Rp K H (f i j) (g i j)) : Rv K T (rI P g) W (.int i) (.int j) (fun d => d = f i j) := by
  rintro x y W1 H1 _ e rfl rfl Q q
  exact ⟨i, j, rfl, rfl, hp, q _ _ _ H1 rfl (Vw.same e) (h _)⟩
theorem rv_add : Rv K T (rI0 fun i j => .int (i + j)) W (.int i) (.int j) (fun d => d = .int (i + j)) := rv_0 (f := fun i j => .int (i + j)) fun _ => rfl
theorem rv_sub : Rv K T (rI0 fun i j => .int (i - j)) W (.int i) (.int j) (fun d => d = .int (i - j)) := rv_0 (f := fun i j => .int (i - j)) fun _ => rfl
theorem rv_mul (h : CMul i j) : Rv K T (rI CMul fun i j => .int (i * j)) W (.int i) (.int j) (fun d => d = .int (i * j)) := rv_I (f := fun i j => .int (i * j)) h fun _ => rfl
theorem rv_mod (h : 0 < j) : Rv K T (rI (fun _ j => 0 < j) fun i j => .int (i % j)) W (.int i) (.int j) (fun d => d = .int (i % j)) := rv_I (f := fun i j => .int (i % j)) h fun _ => rfl
theorem rv_fdiv (h : CDiv i j) : Rv K T (rI CDiv fun i j => .int (i / j)) W (.int i) (.int j) (fun d => d = .int (i / j)) := rv_I (f := fun i j => .int (i / j)) h fun _ => rfl
theorem rv_lt : Rv K T (rI0 fun i j => .bl (decide (i < j))) W (.int i) (.int j) (fun d => d = .bl (decide (i < j))) := rv_0 (f := fun i j => .bl (decide (i < j))) fun _ => rfl
theorem rv_le : Rv K T (rI0 fun i j => .bl (decide (i ≤ j))) W (.int i) (.int j) (fun d => d = .bl (decide (i ≤ j))) := rv_0 (f := fun i j => .bl (decide (i ≤ j))) fun _ => rfl
theorem rv_gt : Rv K T (rI0 fun i j => .bl (decide (j < i))) W (.int i) (.int j) (fun d => d = .bl (decide (j < i))) := rv_0 (f := fun i j => .bl (decide (j < i))) fun _ => rfl
theorem rv_ge : Rv K T (rI0 fun i j => .bl (decide (j ≤ i))) W (.int i) (.int j) (fun d => d = .bl (decide (j ≤ i))) := rv_0 (f := fun i j => .bl (decide (j ≤ i))) fun _ => rfl
theorem ru_neg : Ru K T (rU fun i => .int (-i)) W (.int i) (fun d => d = .int (-i)) := by
  rintro x W1 H1 _ e rfl Q q
  exact ⟨i, rfl, q _ _ _ H1 rfl (Vw.same e) rp_i⟩
/-- the scalar that a datum is -/
def sc : D → Option V
  | .non => some .non
  | .bl b => some (.bl b)
  | .int i => some (.int i)
  | .str s => some (.str s)
  | _ => none
theorem sc_rp {v w : V} (h : sc d = some w) (r : Rp K W d v) : v = w := by
  cases d <;> first | (cases h; exact r) | cases h
theorem rv_eq {x y : V} (ha : sc a = some x) (hb : sc b = some y) (h : scal x y = true) : Rv K T rEq W a b (fun d => d = .bl (decide (x = y))) := by
  intro v w W1 H1 _ e r1 r2 Q q
  rw [sc_rp ha r1, sc_rp hb r2]
  exact ⟨h, q _ _ _ H1 rfl (Vw.same e) rp_b⟩
theorem rv_ne {x y : V} (ha : sc a = some x) (hb : sc b = some y) (h : scal x y = true) : Rv K T rNe W a b (fun d => d = .bl (!decide (x = y))) := by
  intro v w W1 H1 _ e r1 r2 Q q
  rw [sc_rp ha r1, sc_rp hb r2]
  exact ⟨h, q _ _ _ H1 rfl (Vw.same e) rp_b⟩
theorem dec_i (i j : Int) : decide (V.int i = V.int j) = decide (i = j) := decide_eq_decide.mpr ⟨fun h => V.int.inj h, fun h => by rw [h]⟩
theorem dec_s (i j : Str) : decide (V.str i = V.str j) = decide (i = j) := decide_eq_decide.mpr ⟨fun h => V.str.inj h, fun h => by rw [h]⟩
theorem dec_b (i j : Bool) : decide (V.bl i = V.bl j) = decide (i = j) := decide_eq_decide.mpr ⟨fun h => V.bl.inj h, fun h => by rw [h]⟩
theorem rv_eqI : Rv K T rEq W (.int i) (.int j) (fun d => d = .bl (decide (i = j))) := by
  rw [← dec_i]
  exact rv_eq rfl rfl rfl
theorem rv_neI : Rv K T rNe W (.int i) (.int j) (fun d => d = .bl (!decide (i = j))) := by
  rw [← dec_i]
  exact rv_ne rfl rfl rfl
theorem rv_eqS {x y : Str} : Rv K T rEq W (.str x) (.str y) (fun d => d = .bl (decide (x = y))) := by
  rw [← dec_s]
  exact rv_eq rfl rfl rfl
theorem rv_neS {x y : Str} : Rv K T rNe W (.str x) (.str y) (fun d => d = .bl (!decide (x = y))) := by
  rw [← dec_s]
  exact rv_ne rfl rfl rfl
theorem rv_eqB {x y : Bool} : Rv K T rEq W (.bl x) (.bl y) (fun d => d = .bl (decide (x = y))) := by
  rw [← dec_b]
  exact rv_eq rfl rfl rfl
theorem rv_neB {x y : Bool} : Rv K T rNe W (.bl x) (.bl y) (fun d => d = .bl (!decide (x = y))) := by
  rw [← dec_b]
  exact rv_ne rfl rfl rfl
/-- is it None? -/
def isN : D → Bool
  | .non => true
  | _ => false
theorem rp_isN {v : V} (r : Rp K W a v) : decide (v = .non) = isN a := by
  cases a with
  | non => cases r; rfl
  | bl _ => cases r; rfl
  | int _ => cases r; rfl
  | str _ => cases r; rfl
  | lst _ => obtain ⟨_, _, rfl, _⟩ := r; rfl
  | tup _ => obtain ⟨_, _, rfl, _⟩ := r; rfl
  | row _ _ _ => obtain ⟨rfl, _⟩ := r; rfl
theorem rv_isN : Rv K T (fun x y H Q => y = .non ∧ Q (.bl (decide (x = .non))) H) W a .non (fun d => d = .bl (isN a)) := by
  rintro v w W1 H1 _ e r1 rfl Q q
  rw [rp_isN r1]
  exact ⟨rfl, q _ _ _ H1 rfl (Vw.same e) rp_b⟩
theorem rv_notN : Rv K T (fun x y H Q => y = .non ∧ Q (.bl (!decide (x = .non))) H) W a .non (fun d => d = .bl (!isN a)) := by
  rintro v w W1 H1 _ e r1 rfl Q q
  rw [rp_isN r1]
  exact ⟨rfl, q _ _ _ H1 rfl (Vw.same e) rp_b⟩
theorem rv_catS {x y : Str} (h : x.length + y.length ≤ sizeLine) : Rv K T (fun x y H Q => ∃ i j, x = .str i ∧ y = .str j ∧ i.length + j.length ≤ sizeLine ∧ Q (.str (i ++ j)) H) W (.str x) (.str y) (fun d => d = .str (x ++ y)) := by
  rintro v w W1 H1 _ e rfl rfl Q q
  exact ⟨x, y, rfl, rfl, h, q _ _ _ H1 rfl (Vw.same e) rp_s⟩
/-! ### subscripts -/
theorem rpl_get : ∀ {l : List D} {xs : List V} {n : Nat} {d : D}, RpL K W l xs → l[n]? = some d → ∃ v, xs[n]? = some v ∧ Rp K W d v
  | d :: l, x :: xs, 0, c, ⟨h, _⟩, e => by
    cases e
    exact ⟨x, rfl, h⟩
  | d :: l, x :: xs, n + 1, c, ⟨_, h⟩, e => rpl_get (l := l) (xs := xs) (n := n) h e
  | [], [], _, _, _, e => by simp at e
  | [], _ :: _, _, _, h, _ => False.elim h
  | _ :: _, [], _, _, h, _ => False.elim h
theorem rpl_len : ∀ {l : List D} {xs : List V}, RpL K W l xs → xs.length = l.length
  | d :: l, x :: xs, ⟨_, h⟩ => by rw [List.length_cons, List.length_cons, rpl_len h]
  | [], [], _ => rfl
  | [], _ :: _, h => False.elim h
  | _ :: _, [], h => False.elim h
theorem rpl_app : ∀ {l m : List D} {xs ys : List V}, RpL K W l xs → RpL K W m ys → RpL K W (l ++ m) (xs ++ ys)
  | d :: l, _, x :: xs, _, ⟨h1, h2⟩, h => ⟨h1, rpl_app h2 h⟩
  | [], _, [], _, _, h => h
  | [], _, _ :: _, _, h, _ => False.elim h
  | _ :: _, _, [], _, h, _ => False.elim h
theorem rpl_set : ∀ {l : List D} {xs : List V} (n : Nat) {d : D} {v : V}, RpL K W l xs → Rp K W d v → RpL K W (l.set n d) (xs.set n v)
  | d :: l, x :: xs, 0, _, _, ⟨_, h2⟩, r => ⟨r, h2⟩
  | d :: l, x :: xs, n + 1, _, _, ⟨h1, h2⟩, r => ⟨h1, rpl_set n h2 r⟩
  | [], [], _, _, _, h, _ => h
  | [], _ :: _, _, _, _, h, _ => False.elim h
  | _ :: _, [], _, _, _, h, _ => False.elim h
theorem at_rpl {l : List D} {xs : List V} {i : Int} {d : D} (h : RpL K W l xs) (e : atI l i = some d) : ∃ v, atI xs i = some v ∧ Rp K W d v := by
  unfold atI at e ⊢
  rw [rpl_len h]
  cases q : ixN l.length i with
  | none =>
    rw [q] at e
    cases e
  | some n =>
    rw [q] at e
    exact rpl_get h e
theorem rv_ixL {l : List D} (h : atI l i = some d) : Rv K T (rIxL K) W (.lst l) (.int i) (fun x => x = d) := by
  rintro v w W1 H1 _ e ⟨p, xs, rfl, hs, g, hl⟩ rfl Q q
  obtain ⟨v, h1, h2⟩ := at_rpl hl h
  exact ⟨p, xs, i, v, rfl, rfl, SqL.of (e.keep _ _ hs g), h1, q d v _ H1 rfl (Vw.same e) (ex_rp (Vw.same e).up _ _ h2)⟩
theorem rv_ixT {l : List D} (h : atI l i = some d) : Rv K T (rIxT K) W (.tup l) (.int i) (fun x => x = d) := by
  rintro v w W1 H1 _ e ⟨p, xs, rfl, hs, hl⟩ rfl Q q
  obtain ⟨v, h1, h2⟩ := at_rpl hl h
  exact ⟨p, xs, i, v, rfl, rfl, ex_st e hs, h1, q d v _ H1 rfl (Vw.same e) (ex_rp (Vw.same e).up _ _ h2)⟩
theorem rv_ixS {z : Str} {c : Nat} (hz : z.length ≤ sizeLine) (h : atI z.cps.toList i = some c) : Rv K T rIxS W (.str z) (.int i) (fun x => x = .str ⟨#[c]⟩) := by
  rintro v w W1 H1 _ e rfl rfl Q q
  exact ⟨z, i, c, rfl, rfl, hz, h, q _ _ _ H1 rfl (Vw.same e) rp_s⟩
/-! ### tests -/
theorem et_test {B : Bool → Prop} (h : EvE K T te σ W (fun d => ∃ b, d = .bl b ∧ B b)) : EvT K T (tTest te) σ W B := fun H1 e Q q => h H1 e _ fun d v W2 H2 hd z rv => by
  obtain ⟨b, rfl, hb⟩ := hd
  exact ⟨b, rv, q b W2 H2 hb z⟩
theorem et_B {B : Bool → Prop} (h : EvE K T te σ W (fun d => ∃ b, d = .bl b ∧ B b)) : EvT K T (tB te) σ W B := fun H1 e Q q => h H1 e _ fun d v W2 H2 hd z rv => by
  obtain ⟨b, rfl, hb⟩ := hd
  exact ⟨b, rv, q b W2 H2 hb z⟩
theorem et_t (h : Ev K T te σ W (.bl k)) : EvT K T (tTest te) σ W (fun b => b = k) := et_test (h.imp fun d e => ⟨k, e, rfl⟩)
theorem et_b (h : Ev K T te σ W (.bl k)) : EvT K T (tB te) σ W (fun b => b = k) := et_B (h.imp fun d e => ⟨k, e, rfl⟩)
theorem EvT.imp {A B : Bool → Prop} (h : EvT K T t σ W A) (q : ∀ b, A b → B b) : EvT K T t σ W B := fun H1 e1 Q k => h H1 e1 Q fun b W2 H2 hb => k b W2 H2 (q b hb)
theorem et_not {B C : Bool → Prop} (h : EvT K T t σ W B) (q : ∀ b, B b → C (!b)) : EvT K T (tNot t) σ W C := fun H1 e Q k => h H1 e _ fun b W2 H2 hb z => k (!b) W2 H2 (q b hb) z
theorem et_and {A B : Bool → Prop} (h1 : EvT K T t σ W A) (h2 : A true → EvT K T u σ W B) (h3 : A false → B false) : EvT K T (tAnd t u) σ W B := fun H1 e Q q => h1 H1 e _ fun b W2 H2 hb z => by
  cases b with
  | true =>
    show u σ H2 Q
    exact ((h2 hb).mono z.up) H2 z.to Q fun b W3 H3 hb y => q b W3 H3 hb (z.trans y)
  | false =>
    show Q false H2
    exact q false W2 H2 (h3 hb) z
theorem et_or {A B : Bool → Prop} (h1 : EvT K T t σ W A) (h2 : A false → EvT K T u σ W B) (h3 : A true → B true) : EvT K T (tOr t u) σ W B := fun H1 e Q q => h1 H1 e _ fun b W2 H2 hb z => by
  cases b with
  | true =>
    show Q true H2
    exact q true W2 H2 (h3 hb) z
  | false =>
    show u σ H2 Q
    exact ((h2 hb).mono z.up) H2 z.to Q fun b W3 H3 hb y => q b W3 H3 hb (z.trans y)
theorem et_and2 {k l : Bool} (h1 : EvT K T t σ W (fun b => b = k)) (h2 : k = true → EvT K T u σ W (fun b => b = l)) : EvT K T (tAnd t u) σ W (fun b => b = (k && l)) :=
  et_and h1 (fun e => (h2 e.symm).imp fun b q => by rw [← e, q]; rfl) fun e => by rw [← e]; rfl
theorem et_or2 {k l : Bool} (h1 : EvT K T t σ W (fun b => b = k)) (h2 : k = false → EvT K T u σ W (fun b => b = l)) : EvT K T (tOr t u) σ W (fun b => b = (k || l)) :=
  et_or h1 (fun e => (h2 e.symm).imp fun b q => by rw [← e, q]; rfl) fun e => by rw [← e]; rfl
theorem et_not2 (h : EvT K T t σ W (fun b => b = k)) : EvT K T (tNot t) σ W (fun b => b = !k) := et_not h fun b e => by rw [e]
theorem et_to {k l : Bool} (h : EvT K T t σ W (fun b => b = k)) (e : k = l) : EvT K T t σ W (fun b => b = l) := by
  rw [← e]
  exact h
theorem ev_andV {l : Bool} (h1 : Ev K T ta σ W (.bl k)) (h2 : k = true → Ev K T tb σ W (.bl l)) : Ev K T (tAndV ta tb) σ W (.bl (k && l)) := fun H1 e Q q => h1 H1 e _ fun d v W2 H2 hd z rv => by
  subst hd
  refine ⟨k, rv, ?_⟩
  cases k with
  | true =>
    show tb σ H2 Q
    exact ((h2 rfl).mono z.up) H2 z.to Q fun d v W3 H3 hd y rv => q d v W3 H3 hd (z.trans y) rv
  | false =>
    show Q (.bl false) H2
    exact q _ _ W2 H2 rfl z rp_b
theorem ev_orV {l : Bool} (h1 : Ev K T ta σ W (.bl k)) (h2 : k = false → Ev K T tb σ W (.bl l)) : Ev K T (tOrV ta tb) σ W (.bl (k || l)) := fun H1 e Q q => h1 H1 e _ fun d v W2 H2 hd z rv => by
  subst hd
  refine ⟨k, rv, ?_⟩
  cases k with
  | false =>
    show tb σ H2 Q
    exact ((h2 rfl).mono z.up) H2 z.to Q fun d v W3 H3 hd y rv => q d v W3 H3 hd (z.trans y) rv
  | true =>
    show Q (.bl true) H2
    exact q _ _ W2 H2 rfl z rp_b
theorem ev_notV (h1 : Ev K T ta σ W (.bl k)) : Ev K T (tNotV ta) σ W (.bl (!k)) := fun H1 e Q q => h1 H1 e _ fun d v W2 H2 hd z rv => by
  subst hd
  exact ⟨k, rv, q _ _ W2 H2 rfl z rp_b⟩
theorem ev_if {B : Bool → Prop} (h : EvT K T t σ W B) (h1 : B true → EvE K T ta σ W C) (h2 : B false → EvE K T tb σ W C) : EvE K T (tIf t ta tb) σ W C := fun H1 e Q q => h H1 e _ fun b W2 H2 hb z => by
  cases b with
  | true =>
    show ta σ H2 Q
    exact ((h1 hb).mono z.up) H2 z.to Q fun d v W3 H3 hd y rv => q d v W3 H3 hd (z.trans y) rv
  | false =>
    show tb σ H2 Q
    exact ((h2 hb).mono z.up) H2 z.to Q fun d v W3 H3 hd y rv => q d v W3 H3 hd (z.trans y) rv
theorem ev_chain {r r' : R2} {k l : Bool} (ha : Ev K T ta σ W a) (hb : Ev K T tb σ W b) (hr : Rv K T r W a b (fun d => d = .bl k)) (hc : k = true → Ev K T tc σ W c) (hr' : k = true → Rv K T r' W b c (fun d => d = .bl l)) :
    Ev K T (tChain r r' ta tb tc) σ W (.bl (k && l)) := fun H1 e Q q => ha H1 e _ fun a' x W2 H2 ha z2 rx => by
  subst ha
  refine (hb.mono z2.up) H2 z2.to _ fun b' y W3 H3 hb z3 ry => ?_
  subst hb
  refine hr x y W3 H3 (z2.up.trans z3.up) z3.to (ex_rp z3.up _ x rx) ry _ fun d v W4 H4 hd z4 rv => ?_
  subst hd
  refine ⟨k, rv, ?_⟩
  have z := (z2.trans z3).trans z4
  cases k with
  | false =>
    show Q (.bl false) H4
    exact q _ _ W4 H4 rfl z rp_b
  | true =>
    refine ((hc rfl).mono z.up) H4 z.to _ fun c' w W5 H5 hc z5 rz => ?_
    subst hc
    exact hr' rfl y w W5 H5 (z.up.trans z5.up) z5.to (ex_rp (z4.up.trans z5.up) _ y ry) rz Q fun d v W6 H6 hd z6 rv => q d v W6 H6 hd ((z.trans z5).trans z6) rv
/-! ### arguments, displays -/
theorem ea_nil : EvA K T tNil σ W (fun ds => ds = []) := fun H1 e Q q => q [] [] _ H1 rfl (Vw.same e) True.intro
theorem eae_cons {tr : TA} {B : D → List D → Prop} (ha : EvE K T ta σ W A) (hr : ∀ a, A a → EvA K T tr σ W (B a)) : EvA K T (tCons ta tr) σ W (fun ds => ∃ a r, ds = a :: r ∧ A a ∧ B a r) := fun H1 e Q q =>
  ha H1 e _ fun a x W2 H2 ha z2 rx => ((hr a ha).mono z2.up) H2 z2.to _ fun ds vs W3 H3 hd z3 rv => q (a :: ds) (x :: vs) W3 H3 ⟨a, ds, rfl, ha, hd⟩ (z2.trans z3) ⟨ex_rp z3.up a x rx, rv⟩
theorem ea_cons {tr : TA} {ds : List D} (ha : Ev K T ta σ W a) (hr : EvA K T tr σ W (fun x => x = ds)) : EvA K T (tCons ta tr) σ W (fun x => x = a :: ds) := fun H1 e Q q =>
  eae_cons ha (fun _ _ => hr) H1 e Q fun ds vs W2 H2 ⟨a, r, e1, e2, e3⟩ => q ds vs W2 H2 (by rw [e1, e2, e3])
theorem ea_1 (ha : Ev K T ta σ W a) : EvA K T (tCons ta tNil) σ W (fun x => x = [a]) := ea_cons ha ea_nil
theorem ea_2 (ha : Ev K T ta σ W a) (hb : Ev K T tb σ W b) : EvA K T (tCons ta (tCons tb tNil)) σ W (fun x => x = [a, b]) := ea_cons ha (ea_1 hb)
theorem ea_3 (ha : Ev K T ta σ W a) (hb : Ev K T tb σ W b) (hc : Ev K T tc σ W c) : EvA K T (tCons ta (tCons tb (tCons tc tNil))) σ W (fun x => x = [a, b, c]) := ea_cons ha (ea_2 hb hc)
theorem ev_tup {ta : TA} {A : List D → Prop} (h : EvA K T ta σ W A) (hl : ∀ ds, A ds → ds.length ≤ 100000) : EvE K T (tTup ta) σ W (fun d => ∃ ds, d = .tup ds ∧ A ds) := fun H1 e Q q =>
  h H1 e _ fun ds vs W2 H2 hd z rv => ⟨by rw [rpl_len rv]; exact Nat.le_trans (hl ds hd) (by decide), fun p hp =>
    have y := Vw.new (o := .tup vs) z.to hp
    q (.tup ds) _ _ _ ⟨ds, rfl, hd⟩ (z.trans y) ⟨p, vs, rfl, SqT.of (wv_new hp), ex_rpl y.up ds vs rv⟩⟩
theorem ev_tupD {ta : TA} {ds : List D} (h : EvA K T ta σ W (fun x => x = ds)) (hl : ds.length ≤ 100000 := by decide) : Ev K T (tTup ta) σ W (.tup ds) := (ev_tup h (fun x e => by rw [e]; exact hl)).imp fun d ⟨x, e, h⟩ => by rw [e, h]
theorem ev_lst {ta : TA} {A : List D → Prop} (h : EvA K T ta σ W A) (hl : ∀ ds, A ds → ds.length ≤ 100000) (hr : ∀ ds vs H, A ds → RpL K H ds vs → rowish vs = false) : EvE K T (tLst ta) σ W (fun d => ∃ ds, d = .lst ds ∧ A ds) := fun H1 e Q q =>
  h H1 e _ fun ds vs W2 H2 hd z rv => ⟨by rw [rpl_len rv]; exact Nat.le_trans (hl ds hd) (by decide), fun p hp =>
    have y := Vw.new (o := .lst vs) z.to hp
    q (.lst ds) _ _ _ ⟨ds, rfl, hd⟩ (z.trans y) ⟨p, vs, rfl, wv_new hp, hr ds vs _ hd rv, ex_rpl y.up ds vs rv⟩⟩
end
end K11
/-! K11C: more of what a reading evaluates to: lists, calls, comprehensions, statements. -/
namespace K11
open PySem PySem.Spec
open L2
/-- the shape of the row of draws, by data -/
def rowD : List D → Bool
  | [.lst _, .int _, .int _, .int _] => true
  | [.tup _, .int _, .int _, .int _] => true
  | [.row _ _ _, .int _, .int _, .int _] => true
  | _ => false
section
variable {K : PySem.W.Frag} {T : List (Addr × Str)} {σ : L2.St} {W W' H : Hp} {ta tb tc te : TE} {t u : TT} {A B C : D → Prop} {a b c d : D} {r : R2} {i j : Int} {k : Bool}
theorem rp_int {v : V} : ∀ {d : D}, Rp K H d (.int i) → d = .int i
  | .non, h => by cases h
  | .bl _, h => by cases h
  | .int _, h => by
    have z : V.int i = V.int _ := h
    cases z
    rfl
  | .str _, h => by cases h
  | .lst _, h => by obtain ⟨_, _, z, _⟩ := h; cases z
  | .tup _, h => by obtain ⟨_, _, z, _⟩ := h; cases z
  | .row _ _ _, h => by obtain ⟨z, _⟩ := h; cases z
theorem rowish_of : ∀ {ds : List D} {vs : List V}, RpL K H ds vs → rowD ds = false → rowish vs = false := by
  intro ds vs h e
  cases q : rowish vs with
  | false => rfl
  | true =>
    exfalso
    unfold rowish at q
    split at q
    · rename_i p x y z
      match ds, h with
      | [d1, d2, d3, d4], ⟨h1, h2, h3, h4, _⟩ =>
        cases rp_int (v := .int x) h2
        cases rp_int (v := .int y) h3
        cases rp_int (v := .int z) h4
        cases d1 with
        | lst _ => cases e
        | tup _ => cases e
        | row _ _ _ => cases e
        | non => cases h1
        | bl _ => cases h1
        | int _ => cases h1
        | str _ => cases h1
    · cases q
theorem ev_lstD {ta : TA} {ds : List D} (h : EvA K T ta σ W (fun x => x = ds)) (hr : rowD ds = false := by rfl) (hl : ds.length ≤ 100000 := by decide) : Ev K T (tLst ta) σ W (.lst ds) :=
  (ev_lst h (fun x e => by rw [e]; exact hl) (fun x vs H e r => rowish_of r (by rw [e]; exact hr))).imp fun d ⟨x, e, h⟩ => by rw [e, h]
/-! ### lengths, types -/
theorem ev_lenL {l : List D} (h : Ev K T ta σ W (.lst l)) : Ev K T (tCB (fun xs H Q => ∃ x n, xs = [x] ∧ LenV K x H n ∧ Q (.int n) H) (tCons ta tNil)) σ W (.int (l.length : Int)) := fun H1 e Q q => h H1 e _ fun d v W2 H2 hd z rv => by
  subst hd
  obtain ⟨p, xs, rfl, hs, g, hl⟩ := rv
  exact ⟨_, xs.length, rfl, .inl ⟨xs, SqL.of (z.to.keep _ _ hs g), rfl⟩, q _ _ W2 H2 rfl z (by rw [rpl_len hl]; exact rp_i)⟩
theorem ev_lenT {l : List D} (h : Ev K T ta σ W (.tup l)) : Ev K T (tCB (fun xs H Q => ∃ x n, xs = [x] ∧ LenV K x H n ∧ Q (.int n) H) (tCons ta tNil)) σ W (.int (l.length : Int)) := fun H1 e Q q => h H1 e _ fun d v W2 H2 hd z rv => by
  subst hd
  obtain ⟨p, xs, rfl, hs, hl⟩ := rv
  exact ⟨_, xs.length, rfl, .inr ⟨xs, ex_st z.to hs, rfl⟩, q _ _ W2 H2 rfl z (by rw [rpl_len hl]; exact rp_i)⟩
theorem ev_lenS {s : Str} (h : Ev K T ta σ W (.str s)) (hz : s.length ≤ sizeLine) : Ev K T (tCB (fun xs H Q => ∃ x n, xs = [x] ∧ LenV K x H n ∧ Q (.int n) H) (tCons ta tNil)) σ W (.int (s.length : Int)) := fun H1 e Q q => h H1 e _ fun d v W2 H2 hd z rv => by
  subst hd
  cases rv
  exact ⟨_, s.length, rfl, ⟨hz, rfl⟩, q _ _ W2 H2 rfl z rp_i⟩
/-- the name of a datum's type -/
def tyD : D → String
  | .non => "NoneType"
  | .bl _ => "bool"
  | .int _ => "int"
  | .str _ => "str"
  | .lst _ => "list"
  | .tup _ => "tuple"
  | .row _ _ _ => "list"
theorem tyx_t {a : Addr} {xs : List V} (h : SqT K H a xs) : TyX K H (.ref a) (.type "tuple") := by
  rcases h with (h | ⟨o, h⟩) | ⟨o, its, n, h1, h2, _⟩
  · exact .base (.tup h)
  · exact .fTuple h
  · exact .kTuple h1 h2
theorem tyx_d {v : V} : ∀ {d : D}, Rp K H d v → TyX K H v (.type (tyD d))
  | .non, h => by cases (show v = .non from h); exact .base .non
  | .bl _, h => by cases (show v = .bl _ from h); exact .base (.bl _)
  | .int _, h => by cases (show v = .int _ from h); exact .base (.int _)
  | .str _, h => by cases (show v = .str _ from h); exact .base (.str _)
  | .lst _, h => by obtain ⟨_, _, rfl, h, _⟩ := h; exact .base (.lst h)
  | .tup _, h => by obtain ⟨_, _, rfl, h, _⟩ := h; exact tyx_t h
  | .row _ _ _, h => by obtain ⟨rfl, _, _, _, h, _⟩ := h; exact .base (.lst h)
theorem ev_isi {n : String} (h : Ev K T ta σ W d) (hk : kitB (tyD d) n = some k) : Ev K T (tCB (rIsi K) (tCons ta (tCons (tC (.ty n)) tNil))) σ W (.bl k) := fun H1 e Q q => h H1 e _ fun x v W2 H2 hd z rv => by
  subst hd
  exact ⟨v, .ty n, _, _, k, rfl, .ty n, tyx_d (ex_rp z.to _ _ rv), kit_ty hk, q _ _ W2 H2 rfl z rp_b⟩
/-- isinstance(x, (n, m)) -/
theorem ev_isi2 {n m : String} {k1 k2 : Bool} (h : Ev K T ta σ W d) (h1 : kitB (tyD d) n = some k1) (h2 : kitB (tyD d) m = some k2) :
    Ev K T (tCB (rIsiT K) (tCons ta (tCons (tTup (tCons (tC (.ty n)) (tCons (tC (.ty m)) tNil))) tNil))) σ W (.bl (k1 || k2)) := fun H1 e Q q => h H1 e _ fun x v W2 H2 hd z rv => by
  subst hd
  refine ⟨by show 2 ≤ sizeLine; decide, fun p hp => ?_⟩
  have y := Vw.new (o := .tup [.ty n, .ty m]) z.to hp
  refine ⟨v, p, _, _, [.type n, .type m], k1 || k2, rfl, upd_same, .cons (.ty n) (.cons (.ty m) .nil), tyx_d (ex_rp (y.up.trans y.to) _ _ rv), ?_, q _ _ _ _ rfl (z.trans y) rp_b⟩
  refine kitAny_cons (kit_ty h1) (fun e => ?_) (fun e => by rw [e]; rfl)
  rw [e]
  refine kitAny_cons (kit_ty h2) (fun e => ?_) (fun e => by rw [e]; rfl)
  rw [e]
  exact kitAny_nil
/-! ### calls of built-ins -/
theorem ev_cb {r : List V → Hp → VK → Prop} {ta : TA} {A : List D → Prop} (h : EvA K T ta σ W A) (hr : ∀ ds, A ds → Rc K T r W ds C) : EvE K T (tCB r ta) σ W C := fun H1 e Q q =>
  h H1 e _ fun ds vs W2 H2 hd z rv => hr ds hd vs W2 H2 z.up z.to rv Q fun d v W3 H3 hd y rv => q d v W3 H3 hd (z.trans y) rv
theorem ev_cbD {r : List V → Hp → VK → Prop} {ta : TA} {ds : List D} (h : EvA K T ta σ W (fun x => x = ds)) (hr : Rc K T r W ds C) : EvE K T (tCB r ta) σ W C := ev_cb h fun x e => by rw [e]; exact hr
theorem rc_strI (h : i.natAbs.log2 < 1920) : Rc K T (fun xs H Q => ∃ i : Int, xs = [.int i] ∧ i.natAbs.log2 < 1920 ∧ Q (.str (toString i)) H) W [.int i] (fun d => d = .str (toString i)) := by
  intro vs W1 H1 _ e rv Q q
  match vs, rv with
  | [_], ⟨rfl, _⟩ => exact ⟨i, rfl, h, q _ _ _ H1 rfl (Vw.same e) rp_s⟩
theorem rc_intS {s : Str} {n : Int} (h : PySem.intText? s = some n) (hl : s.length ≤ 640) : Rc K T (fun xs H Q => ∃ a n, xs = [.str a] ∧ PySem.intText? a = some n ∧ a.length ≤ 640 ∧ Q (.int n) H) W [.str s] (fun d => d = .int n) := by
  intro vs W1 H1 _ e rv Q q
  match vs, rv with
  | [_], ⟨rfl, _⟩ => exact ⟨s, n, rfl, h, hl, q _ _ _ H1 rfl (Vw.same e) rp_i⟩
theorem rc_int1 : Rc K T (fun xs H Q => (∃ i, xs = [.int i] ∧ Q (.int i) H) ∨ ∃ k, xs = [.bl k] ∧ Q (.int (if k then 1 else 0)) H) W [.int i] (fun d => d = .int i) := by
  intro vs W1 H1 _ e rv Q q
  match vs, rv with
  | [_], ⟨rfl, _⟩ => exact .inl ⟨i, rfl, q _ _ _ H1 rfl (Vw.same e) rp_i⟩
theorem rc_intB : Rc K T (fun xs H Q => (∃ i, xs = [.int i] ∧ Q (.int i) H) ∨ ∃ k, xs = [.bl k] ∧ Q (.int (if k then 1 else 0)) H) W [.bl k] (fun d => d = .int (if k then 1 else 0)) := by
  intro vs W1 H1 _ e rv Q q
  match vs, rv with
  | [_], ⟨rfl, _⟩ => exact .inr ⟨k, rfl, q _ _ _ H1 rfl (Vw.same e) rp_i⟩
theorem rc_tupL {l : List D} : Rc K T (fun xs H Q => ∃ p ys, xs = [.ref p] ∧ ((SqL K H p ys ∧ ∀ l, H l = none → Q (.ref l) (upd H l (.tup ys))) ∨ (SqT K H p ys ∧ Q (.ref p) H))) W [.lst l] (fun d => d = .tup l) := by
  intro vs W1 H1 _ e rv Q q
  match vs, rv with
  | [_], ⟨⟨p, xs, rfl, hs, g, hl⟩, _⟩ =>
    refine ⟨p, xs, rfl, .inl ⟨SqL.of (e.keep _ _ hs g), fun z hz => ?_⟩⟩
    have y := Vw.new (o := .tup xs) e hz
    exact q _ _ _ _ rfl y ⟨z, xs, rfl, SqT.of (wv_new hz), ex_rpl y.up _ _ hl⟩
theorem rc_min2 : Rc K T (fun xs H Q => ∃ i j, xs = [.int i, .int j] ∧ Q (.int (if j < i then j else i)) H) W [.int i, .int j] (fun d => d = .int (if j < i then j else i)) := by
  intro vs W1 H1 _ e rv Q q
  match vs, rv with
  | [_, _], ⟨rfl, rfl, _⟩ => exact ⟨i, j, rfl, q _ _ _ H1 rfl (Vw.same e) rp_i⟩
theorem rc_max2 : Rc K T (fun xs H Q => ∃ i j, xs = [.int i, .int j] ∧ Q (.int (if j > i then j else i)) H) W [.int i, .int j] (fun d => d = .int (if j > i then j else i)) := by
  intro vs W1 H1 _ e rv Q q
  match vs, rv with
  | [_, _], ⟨rfl, rfl, _⟩ => exact ⟨i, j, rfl, q _ _ _ H1 rfl (Vw.same e) rp_i⟩
/-! ### lists -/
theorem rv_cat {l m : List D} (h : l.length + m.length ≤ 100000) (hr : rowD (l ++ m) = false) : Rv K T rCat W (.lst l) (.lst m) (fun d => d = .lst (l ++ m)) := by
  rintro x y W1 H1 _ e ⟨p, xs, rfl, hs, g, hl⟩ ⟨p', ys, rfl, hs', g', hm⟩ Q q
  have hz : xs.length + ys.length ≤ 100000 := by
    rw [rpl_len hl, rpl_len hm]
    exact h
  have ha := rpl_app hl hm
  refine ⟨p, p', xs, ys, rfl, rfl, e.keep _ _ hs g, e.keep _ _ hs' g', Nat.le_trans hz (by decide), fun z nz => ?_⟩
  have y := Vw.new (o := .lst (xs ++ ys)) e nz
  exact q _ _ _ _ rfl y ⟨z, xs ++ ys, rfl, wv_new nz, rowish_of ha hr, ex_rpl y.up _ _ ha⟩
theorem rpl_rep {l : List D} {xs : List V} (h : RpL K H l xs) : ∀ n : Nat, RpL K H (List.replicate n l).flatten (List.replicate n xs).flatten
  | 0 => True.intro
  | n + 1 => rpl_app h (rpl_rep h n)
theorem rv_rep {l : List D} {n : Nat} (h : l.length * n ≤ 100000) (hn : n ≤ 100000) (hr : rowD (List.replicate n l).flatten = false) : Rv K T rRep W (.lst l) (.int (n : Int)) (fun d => d = .lst (List.replicate n l).flatten) := by
  rintro x y W1 H1 _ e ⟨p, xs, rfl, hs, g, hl⟩ rfl Q q
  have hz : xs.length * n ≤ 100000 := by
    rw [rpl_len hl]
    exact h
  have ha := rpl_rep hl n
  refine ⟨p, (n : Int), xs, rfl, rfl, e.keep _ _ hs g, by omega, by omega, Nat.le_trans hz (by decide), fun z nz => ?_⟩
  have y := Vw.new (o := .lst (List.replicate n xs).flatten) e nz
  exact q _ _ _ _ rfl y ⟨z, _, rfl, wv_new nz, rowish_of ha hr, ex_rpl y.up _ _ ha⟩
theorem eo_none : EvO K T tNoPart σ W none := fun H1 e Q q => q _ H1 (Vw.same e)
theorem eo_some (h : Ev K T te σ W (.int i)) : EvO K T (tPart te) σ W (some i) := fun H1 e Q q => h H1 e _ fun d v W2 H2 hd z rv => by
  subst hd
  exact ⟨i, rv, q W2 H2 z⟩
end
end K11
/-! K11D: slices, texts, calls of defs, comprehensions, statements. -/
namespace K11
open PySem PySem.Spec
open L2
section
variable {K : PySem.W.Frag} {T : List (Addr × Str)} {σ : L2.St} {W W' H H' : Hp} {ta tb tc te : TE} {t u : TT} {A B C : D → Prop} {a b c d : D} {r : R2} {i j : Int} {k : Bool}
/-- a cut of data -/
def cutD (l : List D) (lo hi : Option Int) : List D := (l.drop (HT.sIx l.length 0 lo)).take (HT.sIx l.length l.length hi - HT.sIx l.length 0 lo)
theorem rpl_drop : ∀ {l : List D} {xs : List V} (n : Nat), RpL K H l xs → RpL K H (l.drop n) (xs.drop n)
  | _, _, 0, h => h
  | d :: l, x :: xs, n + 1, ⟨_, h⟩ => rpl_drop (l := l) (xs := xs) n h
  | [], [], n + 1, h => h
  | [], _ :: _, n + 1, h => False.elim h
  | _ :: _, [], n + 1, h => False.elim h
theorem rpl_take : ∀ {l : List D} {xs : List V} (n : Nat), RpL K H l xs → RpL K H (l.take n) (xs.take n)
  | _, _, 0, h => True.intro
  | d :: l, x :: xs, n + 1, ⟨h1, h⟩ => ⟨h1, rpl_take (l := l) (xs := xs) n h⟩
  | [], [], n + 1, h => h
  | [], _ :: _, n + 1, h => False.elim h
  | _ :: _, [], n + 1, h => False.elim h
theorem rpl_cut {l : List D} {xs : List V} (h : RpL K H l xs) (lo hi : Option Int) : RpL K H (cutD l lo hi) (cutV xs lo hi) := by
  unfold cutD cutV
  rw [rpl_len h]
  exact rpl_take _ (rpl_drop _ h)
theorem ev_slL {tl th : TO} {l : List D} {o1 o2 : Option Int} (h : Ev K T te σ W (.lst l)) (h1 : EvO K T tl σ W o1) (h2 : EvO K T th σ W o2) (hr : rowD (cutD l o1 o2) = false) : Ev K T (tSl (rSlL K) te tl th) σ W (.lst (cutD l o1 o2)) := fun H1 e Q q =>
  h H1 e _ fun d v W2 H2 hd z2 rv => by
    subst hd
    refine (h1.mono z2.up) H2 z2.to _ fun W3 H3 z3 => (h2.mono (z2.up.trans z3.up)) H3 z3.to _ fun W4 H4 z4 => ?_
    obtain ⟨p, xs, rfl, hs, g, hl⟩ := ex_rp (z3.up.trans z4.up) _ _ rv
    have hc := rpl_cut hl o1 o2
    refine ⟨p, xs, rfl, SqL.of (z4.to.keep _ _ hs g), fun z nz => ?_⟩
    have y := Vw.new (o := .lst (cutV xs o1 o2)) z4.to nz
    exact q _ _ _ _ rfl ((z2.trans (z3.trans z4)).trans y) ⟨z, _, rfl, wv_new nz, rowish_of hc hr, ex_rpl y.up _ _ hc⟩
/-- t[a:b] of a tuple, the slice not the whole -/
theorem ev_slT {tl th : TO} {l : List D} {o1 o2 : Option Int} (h : Ev K T te σ W (.tup l)) (h1 : EvO K T tl σ W o1) (h2 : EvO K T th σ W o2) (hr : ¬ (HT.sIx l.length 0 o1 = 0 ∧ HT.sIx l.length l.length o2 = l.length)) : Ev K T (tSl (rSlT K) te tl th) σ W (.tup (cutD l o1 o2)) := fun H1 e Q q =>
  h H1 e _ fun d v W2 H2 hd z2 rv => by
    subst hd
    refine (h1.mono z2.up) H2 z2.to _ fun W3 H3 z3 => (h2.mono (z2.up.trans z3.up)) H3 z3.to _ fun W4 H4 z4 => ?_
    obtain ⟨p, xs, rfl, hs, hl⟩ := ex_rp (z3.up.trans z4.up) _ _ rv
    have hc := rpl_cut hl o1 o2
    refine ⟨p, xs, rfl, ex_st z4.to hs, by rw [rpl_len hl]; exact hr, fun z nz => ?_⟩
    have y := Vw.new (o := .tup (cutV xs o1 o2)) z4.to nz
    exact q _ _ _ _ rfl ((z2.trans (z3.trans z4)).trans y) ⟨z, _, rfl, SqT.of (wv_new nz), ex_rpl y.up _ _ hc⟩
/-! ### texts -/
theorem rpl_strs : ∀ (ss : List Str), RpL K H (ss.map .str) (ss.map .str)
  | [] => True.intro
  | _ :: ss => ⟨rfl, rpl_strs ss⟩
theorem rp_str {v : V} {s : Str} : Rp K H (.str s) v → v = .str s := fun h => h
theorem rpl_strs_eq : ∀ {ss : List Str} {vs : List V}, RpL K H (ss.map .str) vs → vs = ss.map .str
  | [], [], _ => rfl
  | s :: ss, v :: vs, ⟨h1, h2⟩ => by
    rw [List.map_cons, rpl_strs_eq h2, rp_str h1]
  | [], _ :: _, h => False.elim h
  | _ :: _, [], h => False.elim h
theorem rowD_str : ∀ (ss : List Str), rowD (ss.map .str) = false
  | [] => rfl
  | [_] => rfl
  | [_, _] => rfl
  | [_, _, _] => rfl
  | [_, _, _, _] => rfl
  | _ :: _ :: _ :: _ :: _ :: _ => rfl
theorem ev_split {x y : Str} (ha : Ev K T ta σ W (.str x)) (hb : Ev K T tb σ W (.str y)) (hy : (y.length == 0) = false) (hx : x.length ≤ 1000000) :
    Ev K T (tM1 (fun x xs H Q => ∃ a b, x = .str a ∧ xs = [.str b] ∧ (b.length == 0) = false ∧ a.length + 2 ≤ sizeLine ∧ rNewStrs (Txt.split a b) H Q) ta tb) σ W (.lst ((Txt.split x y).map .str)) := fun H1 e Q q =>
  ha H1 e _ fun d v W2 H2 hd z2 rv => by
    subst hd
    cases rp_str rv
    refine ⟨⟨x, rfl⟩, (hb.mono z2.up) H2 z2.to _ fun d w W3 H3 hd z3 rw' => ?_⟩
    subst hd
    cases rp_str rw'
    have hz : x.length + 2 ≤ sizeLine := Nat.le_trans (Nat.add_le_add_right hx 2) (by decide)
    refine ⟨x, y, rfl, rfl, hy, hz, fun p np => ?_⟩
    have u := Vw.new (o := .lst ((Txt.split x y).map .str)) z3.to np
    exact q _ _ _ _ rfl ((z2.trans z3).trans u) ⟨p, _, rfl, wv_new np, rowish_of (K := K) (H := H3) (rpl_strs _) (rowD_str _), rpl_strs _⟩
theorem ev_join {x : Str} {ys : List Str} (ha : Ev K T ta σ W (.str x)) (hb : Ev K T tb σ W (.lst (ys.map .str))) (hz : (ys.map (·.length)).sum + ys.length * x.length ≤ 16777216) :
    Ev K T (tM1 (fun x xs H Q => ∃ a p, ∃ ys : List Str, x = .str a ∧ xs = [.ref p] ∧ (SqL K H p (ys.map V.str) ∨ SqT K H p (ys.map V.str)) ∧ (ys.map (·.length)).sum + ys.length * a.length ≤ 16777216 ∧ Q (.str (Txt.join a ys)) H) ta tb) σ W (.str (Txt.join x ys)) := fun H1 e Q q =>
  ha H1 e _ fun d v W2 H2 hd z2 rv => by
    subst hd
    cases rp_str rv
    refine ⟨⟨x, rfl⟩, (hb.mono z2.up) H2 z2.to _ fun d w W3 H3 hd z3 rw' => ?_⟩
    subst hd
    obtain ⟨p, xs, rfl, hs, g, hl⟩ := rw'
    rw [rpl_strs_eq hl] at hs g
    exact ⟨x, p, ys, rfl, rfl, .inl (SqL.of (z3.to.keep _ _ hs g)), hz, q _ _ _ _ rfl (z2.trans z3) rp_s⟩
/-! ### defs -/
/-- the tables of the defs that hold a generator expression -/
structure Gd (T : List (Addr × Str)) (P : List Addr) (H : Hp) : Prop where
  g : ∀ p ∈ P, GxR.TabG H p
  t : LamX.Tabs T H
theorem Gd.mono {P : List Addr} (g : Gd T P W) (e : Ex K T W W') : Gd T P W' := ⟨fun p hp => e.tab p (g.g p hp), e.lam g.t⟩
variable (K T) in
/-- a def that raises nothing: its arguments by a letter, what is asked of the letter, what comes back -/
def spF (P : List Addr) {ι : Type} (args : ι → List D) (pre : ι → Prop) (post : ι → D → Prop) : Sp := fun vs H Q _ =>
  ∃ i W, Ex K T W H ∧ RpL K W (args i) vs ∧ Gd T P W ∧ pre i ∧ ∀ d v W' H', post i d → Vw K T W H W' H' → Rp K W' d v → Q v H'
variable (K T) in
/-- a def that may raise the error of the class at C, whose fields are line and place -/
def spX (P : List Addr) (C : Addr) {ι : Type} (args : ι → List D) (pre : ι → Prop) (post : ι → D → Prop) (err : ι → Int → Int → Prop) : Sp := fun vs H Q E =>
  ∃ i W, Ex K T W H ∧ RpL K W (args i) vs ∧ Gd T P W ∧ pre i ∧ (∀ d v W' H', post i d → Vw K T W H W' H' → Rp K W' d v → Q v H') ∧
    ∀ l p dx H', err i l p → Ex K T W H' → H' dx = some (.xd [("place", .int p), ("line", .int l)]) → E (.ref C) (some dx) H'
theorem eve_call {P : List Addr} {ι : Type} {args : ι → List D} {pre : ι → Prop} {post : ι → D → Prop} {E : XK} {ta : TA} {A : List D → Prop} (h : EvA K T ta σ W A) (hg : Gd T P W) (hp : ∀ ds, A ds → ∃ n, ds = args n ∧ pre n ∧ ∀ d, post n d → C d) :
    EvE K T (tCall (spF K T P args pre post) [] E ta) σ W C := fun H1 e Q q => h H1 e _ fun ds vs W2 H2 hd z2 rv => by
  obtain ⟨n, rfl, hn, hc⟩ := hp ds hd
  exact ⟨n, W2, z2.to, by rw [List.append_nil]; exact rv, hg.mono z2.up, hn, fun d v W3 H3 hd z3 rv => q d v W3 H3 (hc d hd) (z2.trans z3) rv⟩
theorem ev_call {P : List Addr} {ι : Type} {args : ι → List D} {pre : ι → Prop} {post : ι → D → Prop} {E : XK} {ta : TA} (n : ι) (h : EvA K T ta σ W (fun x => x = args n)) (hg : Gd T P W) (hp : pre n) :
    EvE K T (tCall (spF K T P args pre post) [] E ta) σ W (post n) := eve_call h hg fun ds e => ⟨n, e, hp, fun d h => h⟩
end
end K11
/-! K11E: readings by slots: what stands in a def's slots is data; expressions, sources, comprehensions, statements. -/
namespace K11
open PySem PySem.Spec
open L2
/-- a slot: not known, a datum, or a list that the def itself changes -/
inductive Sl where
  | no | d (x : D) | own (p : Addr)
section
variable (K : PySem.W.Frag) (T : List (Addr × Str)) (P : List Addr) (B : Hp)
def SlR (H : Hp) : Sl → Option V → Prop
  | .no, _ => True
  | .d d, x => ∃ v, x = some v ∧ Rp K H d v
  | .own p, x => x = some (.ref p)
def RpS (H : Hp) : List Sl → L2.St → Prop
  | [], [] => True
  | s :: δ, x :: σ => SlR K H s x ∧ RpS H δ σ
  | _, _ => False
structure Rs (W : Hp) (δ : List Sl) (σ : L2.St) : Prop where
  s : RpS K W δ σ
  g : Gd T P W
  b : Ex K T B W
def E (te : TE) (δ : List Sl) (A : D → Prop) : Prop := ∀ σ W, Rs K T P B W δ σ → EvE K T te σ W A
abbrev E1 (te : TE) (δ : List Sl) (d : D) : Prop := E K T P B te δ (fun x => x = d)
def Et (t : TT) (δ : List Sl) (C : Bool → Prop) : Prop := ∀ σ W, Rs K T P B W δ σ → EvT K T t σ W C
abbrev Et1 (t : TT) (δ : List Sl) (k : Bool) : Prop := Et K T P B t δ (fun x => x = k)
def Ea (t : TA) (δ : List Sl) (A : List D → Prop) : Prop := ∀ σ W, Rs K T P B W δ σ → EvA K T t σ W A
abbrev Ea1 (t : TA) (δ : List Sl) (ds : List D) : Prop := Ea K T P B t δ (fun x => x = ds)
def Eo (t : TO) (δ : List Sl) (o : Option Int) : Prop := ∀ σ W, Rs K T P B W δ σ → EvO K T t σ W o
/-- an operation, wherever it stands -/
def Ro (r : R2) (a b : D) (C : D → Prop) : Prop := ∀ W, Rv K T r W a b C
def Rt (r : List V → Hp → VK → Prop) (ds : List D) (C : D → Prop) : Prop := ∀ W, Rc K T r W ds C
/-- a new list comes back, that nobody else knows -/
def EvL (te : TE) (σ : L2.St) (W : Hp) (A : List D → Prop) : Prop := ∀ H1, Ex K T W H1 → ∀ Q : VK, (∀ ds xs p W' H', A ds → Vv K T W H1 W' H' → W' p = none → H1 p = none → H' p = some (.lst xs) → rowish xs = false → RpL K W' ds xs → Q (.ref p) H') → te σ H1 Q
def El (te : TE) (δ : List Sl) (A : List D → Prop) : Prop := ∀ σ W, Rs K T P B W δ σ → EvL K T te σ W A
end
section
variable {K : PySem.W.Frag} {T : List (Addr × Str)} {P : List Addr} {B : Hp} {σ : L2.St} {δ : List Sl} {W W' W0 H H1 H2 : Hp} {ta tb tc te : TE} {t u : TT} {A C : D → Prop} {a b c d : D} {r : R2} {i j : Int} {k : Bool}
theorem slr_mono {s : Sl} {x : Option V} (e : Ex K T W W') (h : SlR K W s x) : SlR K W' s x := by
  cases s with
  | no => trivial
  | d y =>
    obtain ⟨v, e1, h1⟩ := h
    exact ⟨v, e1, ex_rp e _ _ h1⟩
  | own p => exact h
theorem rps_mono (e : Ex K T W W') : ∀ {δ : List Sl} {σ : L2.St}, RpS K W δ σ → RpS K W' δ σ
  | [], [], h => h
  | _ :: _, _ :: _, ⟨h1, h2⟩ => ⟨slr_mono e h1, rps_mono e h2⟩
  | [], _ :: _, h => h
  | _ :: _, [], h => h
theorem rps_get : ∀ {δ : List Sl} {σ : L2.St} {n : Nat} {s : Sl}, RpS K W δ σ → δ[n]? = some s → ∃ x, σ[n]? = some x ∧ SlR K W s x
  | s :: δ, x :: σ, 0, _, ⟨h, _⟩, e => by
    cases e
    exact ⟨x, rfl, h⟩
  | s :: δ, x :: σ, n + 1, _, ⟨_, h⟩, e => rps_get (δ := δ) (σ := σ) (n := n) h e
  | [], [], _, _, _, e => by simp at e
  | [], _ :: _, _, _, h, _ => False.elim h
  | _ :: _, [], _, _, h, _ => False.elim h
theorem rps_set : ∀ {δ : List Sl} {σ : L2.St} (n : Nat) {s : Sl} {x : Option V}, RpS K W δ σ → SlR K W s x → RpS K W (δ.set n s) (σ.set n x)
  | s :: δ, x :: σ, 0, _, _, ⟨_, h2⟩, r => ⟨r, h2⟩
  | s :: δ, x :: σ, n + 1, _, _, ⟨h1, h2⟩, r => ⟨h1, rps_set n h2 r⟩
  | [], [], _, _, _, h, _ => h
  | [], _ :: _, _, _, _, h, _ => False.elim h
  | _ :: _, [], _, _, _, h, _ => False.elim h
/-- what is known of one slot is told anew -/
theorem rps_tell : ∀ {δ : List Sl} {σ : L2.St} (n : Nat) {s : Sl}, RpS K W δ σ → (∀ x, σ[n]? = some x → SlR K W s x) → RpS K W (δ.set n s) σ
  | s :: δ, x :: σ, 0, _, ⟨_, h2⟩, r => ⟨r x rfl, h2⟩
  | s :: δ, x :: σ, n + 1, _, ⟨h1, h2⟩, r => ⟨h1, rps_tell n h2 fun y e => r y e⟩
  | [], [], _, _, h, _ => h
  | [], _ :: _, _, _, h, _ => False.elim h
  | _ :: _, [], _, _, h, _ => False.elim h
theorem rps_start {ds : List D} {vs : List V} {N : List Str} (h : RpL K W ds vs) : RpS K W (ds.map .d ++ List.replicate (N.length - ds.length) .no) (L2.start N vs) := by
  unfold L2.start
  rw [rpl_len h]
  generalize N.length - ds.length = n
  induction ds generalizing vs with
  | nil =>
    cases vs with
    | nil =>
      induction n with
      | zero => trivial
      | succ n ih => exact ⟨trivial, ih⟩
    | cons _ _ => exact False.elim h
  | cons d ds ih =>
    cases vs with
    | nil => exact False.elim h
    | cons v vs => exact ⟨⟨v, rfl, h.1⟩, ih h.2⟩
theorem Rs.mono (s : Rs K T P B W δ σ) (e : Ex K T W W') : Rs K T P B W' δ σ := ⟨rps_mono e s.s, s.g.mono e, s.b.trans e⟩
theorem Rs.set {n : Nat} {v : V} (s : Rs K T P B W δ σ) (h : Rp K W d v) : Rs K T P B W (δ.set n (.d d)) (σ.set n (some v)) := ⟨rps_set n s.s ⟨v, rfl, h⟩, s.g, s.b⟩
theorem Rs.setO {n : Nat} {p : Addr} (s : Rs K T P B W δ σ) : Rs K T P B W (δ.set n (.own p)) (σ.set n (some (.ref p))) := ⟨rps_set n s.s rfl, s.g, s.b⟩
theorem Rs.setN {n : Nat} {x : Option V} (s : Rs K T P B W δ σ) : Rs K T P B W (δ.set n .no) (σ.set n x) := ⟨rps_set n s.s trivial, s.g, s.b⟩
def wipeS (δ : List Sl) : List Nat → List Sl
  | [] => δ
  | v :: vs => (wipeS δ vs).set v .no
theorem rps_wipe {vs : List Nat} (h : RpS K W δ σ) : RpS K W (wipeS δ vs) (wipe σ vs) := by
  induction vs with
  | nil => exact h
  | cons v vs ih => exact rps_set v ih trivial
theorem Rs.wipe {vs : List Nat} (s : Rs K T P B W δ σ) : Rs K T P B W (wipeS δ vs) (L2.wipe σ vs) := ⟨rps_wipe s.s, s.g, s.b⟩
theorem wipe_get (σ : L2.St) (i : Nat) : ∀ vs : List Nat, (L2.wipe σ vs)[i]? = if i ∈ vs then σ[i]?.map (fun _ => none) else σ[i]?
  | [] => rfl
  | v :: vs => by
    show ((L2.wipe σ vs).set v none)[i]? = _
    rw [List.getElem?_set, wipe_length, wipe_get σ i vs]
    by_cases h : v = i
    · subst h
      rw [if_pos rfl, if_pos (List.mem_cons_self ..)]
      by_cases q : v < σ.length
      · rw [if_pos q, List.getElem?_eq_getElem q]
        rfl
      · rw [if_neg q, List.getElem?_eq_none (by omega)]
        rfl
    · rw [if_neg h]
      by_cases q : i ∈ vs
      · rw [if_pos q, if_pos (List.mem_cons_of_mem _ q)]
      · rw [if_neg q, if_neg (by simp [q, Ne.symm h])]
theorem wipe_eq {σ σ' : L2.St} {vs : List Nat} (hl : σ'.length = σ.length) (h : ∀ i, i ∉ vs → σ'[i]? = σ[i]?) : L2.wipe σ' vs = L2.wipe σ vs := by
  apply List.ext_getElem?
  intro i
  rw [wipe_get, wipe_get]
  by_cases q : i ∈ vs
  · rw [if_pos q, if_pos q]
    by_cases z : i < σ.length
    · rw [List.getElem?_eq_getElem z, List.getElem?_eq_getElem (by omega)]
      rfl
    · rw [List.getElem?_eq_none (by omega), List.getElem?_eq_none (by omega)]
  · rw [if_neg q, if_neg q]
    exact h i q
theorem wipe_set {vs : List Nat} {n : Nat} {x : Option V} (h : n ∈ vs) : L2.wipe ((L2.wipe σ vs).set n x) vs = L2.wipe σ vs := by
  refine wipe_eq (by rw [List.length_set, wipe_length]) fun i q => ?_
  rw [List.getElem?_set, if_neg (by rintro rfl; exact q h), wipe_get, if_neg q]
theorem wipe_set2 {vs : List Nat} {n m : Nat} {x y : Option V} (h : n ∈ vs) (h' : m ∈ vs) : L2.wipe (((L2.wipe σ vs).set n x).set m y) vs = L2.wipe σ vs := by
  refine wipe_eq (by rw [List.length_set, List.length_set, wipe_length]) fun i q => ?_
  rw [List.getElem?_set, if_neg (by rintro rfl; exact q h'), List.getElem?_set, if_neg (by rintro rfl; exact q h), wipe_get, if_neg q]
/-! ### expressions -/
theorem E.imp (h : E K T P B te δ A) (q : ∀ d, A d → C d) : E K T P B te δ C := fun σ W R => (h σ W R).imp q
theorem E1.is (h : E1 K T P B te δ c) (e : c = d) : E1 K T P B te δ d := by
  rw [← e]
  exact h
theorem e_var {n : Nat} (h : δ[n]? = some (.d d)) : E1 K T P B (tVar n) δ d := fun σ W R => by
  obtain ⟨x, hx, v, rfl, hv⟩ := rps_get R.s h
  exact ev_var hx hv
theorem e_c {v : V} (h : ∀ H, Rp K H d v) : E1 K T P B (tC v) δ d := fun _ W _ => ev_c (h W)
theorem e_int : E1 K T P B (tC (.int i)) δ (.int i) := fun _ _ _ => ev_int
theorem e_str {s : Str} : E1 K T P B (tC (.str s)) δ (.str s) := fun _ _ _ => ev_str
theorem e_bl : E1 K T P B (tC (.bl k)) δ (.bl k) := fun _ _ _ => ev_bl
theorem e_non : E1 K T P B (tC .non) δ .non := fun _ _ _ => ev_non
theorem ee_op {D2 : D → D → Prop} (ha : E K T P B ta δ A) (hb : ∀ a, A a → E K T P B tb δ (D2 a)) (hr : ∀ a b, A a → D2 a b → Ro K T r a b C) : E K T P B (tOp r ta tb) δ C := fun σ W R => eve_op (ha σ W R) (fun a h => hb a h σ W R) fun a b h1 h2 => hr a b h1 h2 W
theorem e_op (ha : E1 K T P B ta δ a) (hb : E1 K T P B tb δ b) (hr : Ro K T r a b C) : E K T P B (tOp r ta tb) δ C := fun σ W R => ev_op (ha σ W R) (hb σ W R) (hr W)
theorem e_un {r : V → Hp → VK → Prop} (ha : E1 K T P B ta δ a) (hr : ∀ W, Ru K T r W a C) : E K T P B (tUn r ta) δ C := fun σ W R => ev_un (ha σ W R) (hr W)
theorem e_neg (ha : E1 K T P B ta δ (.int i)) : E1 K T P B (tUn (rU fun i => .int (-i)) ta) δ (.int (-i)) := e_un ha fun _ => ru_neg
theorem o_add : Ro K T (rI0 fun i j => .int (i + j)) (.int i) (.int j) (fun d => d = .int (i + j)) := fun _ => rv_add
theorem o_sub : Ro K T (rI0 fun i j => .int (i - j)) (.int i) (.int j) (fun d => d = .int (i - j)) := fun _ => rv_sub
theorem o_mul (h : CMul i j) : Ro K T (rI CMul fun i j => .int (i * j)) (.int i) (.int j) (fun d => d = .int (i * j)) := fun _ => rv_mul h
theorem o_mod (h : 0 < j) : Ro K T (rI (fun _ j => 0 < j) fun i j => .int (i % j)) (.int i) (.int j) (fun d => d = .int (i % j)) := fun _ => rv_mod h
theorem o_fdiv (h : CDiv i j) : Ro K T (rI CDiv fun i j => .int (i / j)) (.int i) (.int j) (fun d => d = .int (i / j)) := fun _ => rv_fdiv h
theorem o_lt : Ro K T (rI0 fun i j => .bl (decide (i < j))) (.int i) (.int j) (fun d => d = .bl (decide (i < j))) := fun _ => rv_lt
theorem o_le : Ro K T (rI0 fun i j => .bl (decide (i ≤ j))) (.int i) (.int j) (fun d => d = .bl (decide (i ≤ j))) := fun _ => rv_le
theorem o_gt : Ro K T (rI0 fun i j => .bl (decide (j < i))) (.int i) (.int j) (fun d => d = .bl (decide (j < i))) := fun _ => rv_gt
theorem o_ge : Ro K T (rI0 fun i j => .bl (decide (j ≤ i))) (.int i) (.int j) (fun d => d = .bl (decide (j ≤ i))) := fun _ => rv_ge
theorem o_eq {x y : V} (ha : sc a = some x) (hb : sc b = some y) (h : scal x y = true) : Ro K T rEq a b (fun d => d = .bl (decide (x = y))) := fun _ => rv_eq ha hb h
theorem o_ne {x y : V} (ha : sc a = some x) (hb : sc b = some y) (h : scal x y = true) : Ro K T rNe a b (fun d => d = .bl (!decide (x = y))) := fun _ => rv_ne ha hb h
theorem o_eqI : Ro K T rEq (.int i) (.int j) (fun d => d = .bl (decide (i = j))) := fun _ => rv_eqI
theorem o_neI : Ro K T rNe (.int i) (.int j) (fun d => d = .bl (!decide (i = j))) := fun _ => rv_neI
theorem o_eqS {x y : Str} : Ro K T rEq (.str x) (.str y) (fun d => d = .bl (decide (x = y))) := fun _ => rv_eqS
theorem o_neS {x y : Str} : Ro K T rNe (.str x) (.str y) (fun d => d = .bl (!decide (x = y))) := fun _ => rv_neS
theorem o_eqB {x y : Bool} : Ro K T rEq (.bl x) (.bl y) (fun d => d = .bl (decide (x = y))) := fun _ => rv_eqB
theorem o_isN : Ro K T (fun x y H Q => y = .non ∧ Q (.bl (decide (x = .non))) H) a .non (fun d => d = .bl (isN a)) := fun _ => rv_isN
theorem o_notN : Ro K T (fun x y H Q => y = .non ∧ Q (.bl (!decide (x = .non))) H) a .non (fun d => d = .bl (!isN a)) := fun _ => rv_notN
theorem o_catS {x y : Str} (h : x.length + y.length ≤ 16000000) : Ro K T (fun x y H Q => ∃ i j, x = .str i ∧ y = .str j ∧ i.length + j.length ≤ sizeLine ∧ Q (.str (i ++ j)) H) (.str x) (.str y) (fun d => d = .str (x ++ y)) := fun _ => rv_catS (Nat.le_trans h (by decide))
theorem o_ixL {l : List D} (h : atI l i = some d) : Ro K T (rIxL K) (.lst l) (.int i) (fun x => x = d) := fun _ => rv_ixL h
theorem o_ixT {l : List D} (h : atI l i = some d) : Ro K T (rIxT K) (.tup l) (.int i) (fun x => x = d) := fun _ => rv_ixT h
theorem o_ixS {z : Str} {c : Nat} (hz : z.length ≤ 16000000) (h : atI z.cps.toList i = some c) : Ro K T rIxS (.str z) (.int i) (fun x => x = .str ⟨#[c]⟩) := fun _ => rv_ixS (Nat.le_trans hz (by decide)) h
theorem o_cat {l m : List D} (h : l.length + m.length ≤ 100000) (hr : rowD (l ++ m) = false) : Ro K T rCat (.lst l) (.lst m) (fun d => d = .lst (l ++ m)) := fun _ => rv_cat h hr
theorem o_rep {l : List D} {n : Nat} (h : l.length * n ≤ 100000) (hn : n ≤ 100000) (hr : rowD (List.replicate n l).flatten = false) : Ro K T rRep (.lst l) (.int (n : Int)) (fun d => d = .lst (List.replicate n l).flatten) := fun _ => rv_rep h hn hr
/-- the flat values of a list or tuple -/
theorem rp_flat {v w : V} (h : sc d = some w) (r : Rp K W d v) : v = w := sc_rp h r
def scs : List D → Option (List V)
  | [] => some []
  | d :: ds => match sc d, scs ds with
    | some v, some vs => some (v :: vs)
    | _, _ => none
theorem rpl_flat : ∀ {ds : List D} {vs ws : List V}, scs ds = some ws → RpL K W ds vs → vs = ws
  | [], [], _, h, _ => by cases h; rfl
  | d :: ds, v :: vs, ws, h, ⟨r1, r2⟩ => by
    unfold scs at h
    split at h
    · rename_i x xs h1 h2
      cases h
      rw [sc_rp h1 r1, rpl_flat h2 r2]
    · cases h
  | [], _ :: _, _, _, h => False.elim h
  | _ :: _, [], _, _, h => False.elim h
theorem o_inT {l : List D} {x : V} {xs : List V} {neg : Bool} (h1 : sc a = some x) (h2 : scs l = some xs) (f1 : flatV x = true) (f2 : xs.all flatV = true) : Ro K T (rIn K neg) a (.tup l) (fun d => d = .bl (if neg then !inV x xs else inV x xs)) := by
  rintro W v w W1 H1 _ e r1 ⟨p, ys, rfl, hs, hl⟩ Q q
  rw [sc_rp h1 r1]
  rw [rpl_flat h2 hl] at hs
  exact ⟨p, xs, rfl, .inr (ex_st e hs), f1, f2, q _ _ _ H1 rfl (Vw.same e) rp_b⟩
theorem o_inL {l : List D} {x : V} {xs : List V} {neg : Bool} (h1 : sc a = some x) (h2 : scs l = some xs) (f1 : flatV x = true) (f2 : xs.all flatV = true) : Ro K T (rIn K neg) a (.lst l) (fun d => d = .bl (if neg then !inV x xs else inV x xs)) := by
  rintro W v w W1 H1 _ e r1 ⟨p, ys, rfl, hs, g, hl⟩ Q q
  rw [sc_rp h1 r1]
  have hq := rpl_flat h2 hl
  rw [hq] at hs g
  exact ⟨p, xs, rfl, .inl (SqL.of (e.keep _ _ hs g)), f1, f2, q _ _ _ H1 rfl (Vw.same e) rp_b⟩
theorem o_catT {l m : List D} (h : l.length + m.length ≤ 100000) : Ro K T (rCatA K) (.tup l) (.tup m) (fun d => d = .tup (l ++ m)) := by
  rintro W x y W1 H1 _ e ⟨p, xs, rfl, hs, hl⟩ ⟨p', ys, rfl, hs', hm⟩ Q q
  have hz : xs.length + ys.length ≤ 100000 := by
    rw [rpl_len hl, rpl_len hm]
    exact h
  have z := Vw.same e
  refine ⟨p, p', xs, ys, rfl, rfl, ex_st e hs, ex_st e hs', Nat.le_trans hz (by decide), fun h0 => ?_, fun _ h0 => ?_, fun _ _ u nu => ?_⟩
  · subst h0
    cases l with
    | cons _ _ => exact False.elim hl
    | nil => exact q _ _ _ H1 rfl z ⟨p', ys, rfl, ex_st z.up hs', ex_rpl z.up _ _ hm⟩
  · subst h0
    cases m with
    | cons _ _ => exact False.elim hm
    | nil => exact q _ _ _ H1 rfl z ⟨p, xs, rfl, ex_st z.up hs, by rw [List.append_nil]; exact ex_rpl z.up _ _ hl⟩
  · have y := Vw.new (o := .tup (xs ++ ys)) e nu
    exact q _ _ _ _ rfl y ⟨u, xs ++ ys, rfl, SqT.of (wv_new nu), ex_rpl y.up _ _ (rpl_app hl hm)⟩
/-! ### tests -/
theorem t_test {C : Bool → Prop} (h : E K T P B te δ (fun d => ∃ b, d = .bl b ∧ C b)) : Et K T P B (tTest te) δ C := fun σ W R => et_test (h σ W R)
theorem t_t (h : E1 K T P B te δ (.bl k)) : Et1 K T P B (tTest te) δ k := fun σ W R => et_t (h σ W R)
theorem t_b (h : E1 K T P B te δ (.bl k)) : Et1 K T P B (tB te) δ k := fun σ W R => et_b (h σ W R)
theorem t_B {C : Bool → Prop} (h : E K T P B te δ (fun d => ∃ b, d = .bl b ∧ C b)) : Et K T P B (tB te) δ C := fun σ W R => et_B (h σ W R)
theorem Et.imp {A C : Bool → Prop} (h : Et K T P B t δ A) (q : ∀ b, A b → C b) : Et K T P B t δ C := fun σ W R => (h σ W R).imp q
theorem t_not {A C : Bool → Prop} (h : Et K T P B t δ A) (q : ∀ b, A b → C (!b)) : Et K T P B (tNot t) δ C := fun σ W R => et_not (h σ W R) q
theorem t_not1 (h : Et1 K T P B t δ k) : Et1 K T P B (tNot t) δ (!k) := fun σ W R => et_not2 (h σ W R)
theorem t_and {A C : Bool → Prop} (h1 : Et K T P B t δ A) (h2 : A true → Et K T P B u δ C) (h3 : A false → C false) : Et K T P B (tAnd t u) δ C := fun σ W R => et_and (h1 σ W R) (fun h => h2 h σ W R) h3
theorem t_or {A C : Bool → Prop} (h1 : Et K T P B t δ A) (h2 : A false → Et K T P B u δ C) (h3 : A true → C true) : Et K T P B (tOr t u) δ C := fun σ W R => et_or (h1 σ W R) (fun h => h2 h σ W R) h3
theorem t_and1 {k l : Bool} (h1 : Et1 K T P B t δ k) (h2 : k = true → Et1 K T P B u δ l) : Et1 K T P B (tAnd t u) δ (k && l) := fun σ W R => et_and2 (h1 σ W R) fun e => h2 e σ W R
theorem t_or1 {k l : Bool} (h1 : Et1 K T P B t δ k) (h2 : k = false → Et1 K T P B u δ l) : Et1 K T P B (tOr t u) δ (k || l) := fun σ W R => et_or2 (h1 σ W R) fun e => h2 e σ W R
theorem Et1.is {k l : Bool} (h : Et1 K T P B t δ k) (e : k = l) : Et1 K T P B t δ l := by
  rw [← e]
  exact h
theorem e_andV {l : Bool} (h1 : E1 K T P B ta δ (.bl k)) (h2 : k = true → E1 K T P B tb δ (.bl l)) : E1 K T P B (tAndV ta tb) δ (.bl (k && l)) := fun σ W R => ev_andV (h1 σ W R) fun e => h2 e σ W R
theorem e_orV {l : Bool} (h1 : E1 K T P B ta δ (.bl k)) (h2 : k = false → E1 K T P B tb δ (.bl l)) : E1 K T P B (tOrV ta tb) δ (.bl (k || l)) := fun σ W R => ev_orV (h1 σ W R) fun e => h2 e σ W R
theorem e_notV (h1 : E1 K T P B ta δ (.bl k)) : E1 K T P B (tNotV ta) δ (.bl (!k)) := fun σ W R => ev_notV (h1 σ W R)
theorem e_if {C' : Bool → Prop} (h : Et K T P B t δ C') (h1 : C' true → E K T P B ta δ C) (h2 : C' false → E K T P B tb δ C) : E K T P B (tIf t ta tb) δ C := fun σ W R => ev_if (h σ W R) (fun e => h1 e σ W R) fun e => h2 e σ W R
theorem e_chain {r r' : R2} {k l : Bool} (ha : E1 K T P B ta δ a) (hb : E1 K T P B tb δ b) (hr : Ro K T r a b (fun d => d = .bl k)) (hc : k = true → E1 K T P B tc δ c) (hr' : k = true → Ro K T r' b c (fun d => d = .bl l)) :
    E1 K T P B (tChain r r' ta tb tc) δ (.bl (k && l)) := fun σ W R => ev_chain (ha σ W R) (hb σ W R) (hr W) (fun e => hc e σ W R) fun e => hr' e W
/-! ### truth of a list -/
theorem t_truL {l : List D} (h : E1 K T P B te δ (.lst l)) : Et1 K T P B (fun σ H Q => te σ H fun x H' => ∃ k, TruV K x H' k ∧ Q k H') δ (!l.isEmpty) := fun σ W R H1 e Q q => h σ W R H1 e _ fun d v W2 H2 hd z rv => by
  subst hd
  obtain ⟨p, xs, rfl, hs, g, hl⟩ := rv
  have hx : xs.isEmpty = l.isEmpty := by
    cases l <;> cases xs <;> first | rfl | exact False.elim hl
  refine ⟨!l.isEmpty, ?_, q _ W2 H2 rfl z⟩
  rw [← hx]
  exact .inl ⟨xs, SqL.of (z.to.keep _ _ hs g), rfl⟩
/-! ### arguments, displays -/
theorem a_nil : Ea1 K T P B tNil δ [] := fun _ _ _ => ea_nil
theorem aa_cons {tr : TA} {D2 : D → List D → Prop} (ha : E K T P B ta δ A) (hr : ∀ a, A a → Ea K T P B tr δ (D2 a)) : Ea K T P B (tCons ta tr) δ (fun ds => ∃ a r, ds = a :: r ∧ A a ∧ D2 a r) := fun σ W R => eae_cons (ha σ W R) fun a h => hr a h σ W R
theorem a_cons {tr : TA} {ds : List D} (ha : E1 K T P B ta δ a) (hr : Ea1 K T P B tr δ ds) : Ea1 K T P B (tCons ta tr) δ (a :: ds) := fun σ W R => ea_cons (ha σ W R) (hr σ W R)
theorem Ea.imp {t : TA} {A C : List D → Prop} (h : Ea K T P B t δ A) (q : ∀ b, A b → C b) : Ea K T P B t δ C := fun σ W R H1 e Q k => h σ W R H1 e Q fun ds vs W2 H2 hd => k ds vs W2 H2 (q ds hd)
theorem a_1 (ha : E1 K T P B ta δ a) : Ea1 K T P B (tCons ta tNil) δ [a] := a_cons ha a_nil
theorem a_2 (ha : E1 K T P B ta δ a) (hb : E1 K T P B tb δ b) : Ea1 K T P B (tCons ta (tCons tb tNil)) δ [a, b] := a_cons ha (a_1 hb)
theorem a_3 (ha : E1 K T P B ta δ a) (hb : E1 K T P B tb δ b) (hc : E1 K T P B tc δ c) : Ea1 K T P B (tCons ta (tCons tb (tCons tc tNil))) δ [a, b, c] := a_cons ha (a_2 hb hc)
theorem e_tup {ta : TA} {ds : List D} (h : Ea1 K T P B ta δ ds) (hl : ds.length ≤ 100000 := by decide) : E1 K T P B (tTup ta) δ (.tup ds) := fun σ W R => ev_tupD (h σ W R) hl
theorem ee_tup {ta : TA} {A : List D → Prop} (h : Ea K T P B ta δ A) (hl : ∀ ds, A ds → ds.length ≤ 100000) : E K T P B (tTup ta) δ (fun d => ∃ ds, d = .tup ds ∧ A ds) := fun σ W R => ev_tup (h σ W R) hl
theorem e_lst {ta : TA} {ds : List D} (h : Ea1 K T P B ta δ ds) (hr : rowD ds = false := by rfl) (hl : ds.length ≤ 100000 := by decide) : E1 K T P B (tLst ta) δ (.lst ds) := fun σ W R => ev_lstD (h σ W R) hr hl
theorem e_lenL {l : List D} (h : E1 K T P B ta δ (.lst l)) : E1 K T P B (tCB (fun xs H Q => ∃ x n, xs = [x] ∧ LenV K x H n ∧ Q (.int n) H) (tCons ta tNil)) δ (.int (l.length : Int)) := fun σ W R => ev_lenL (h σ W R)
theorem e_lenT {l : List D} (h : E1 K T P B ta δ (.tup l)) : E1 K T P B (tCB (fun xs H Q => ∃ x n, xs = [x] ∧ LenV K x H n ∧ Q (.int n) H) (tCons ta tNil)) δ (.int (l.length : Int)) := fun σ W R => ev_lenT (h σ W R)
theorem e_lenS {s : Str} (h : E1 K T P B ta δ (.str s)) (hz : s.length ≤ 16000000) : E1 K T P B (tCB (fun xs H Q => ∃ x n, xs = [x] ∧ LenV K x H n ∧ Q (.int n) H) (tCons ta tNil)) δ (.int (s.length : Int)) := fun σ W R => ev_lenS (h σ W R) (Nat.le_trans hz (by decide))
theorem e_isi {n : String} (h : E1 K T P B ta δ d) (hk : kitB (tyD d) n = some k) : E1 K T P B (tCB (rIsi K) (tCons ta (tCons (tC (.ty n)) tNil))) δ (.bl k) := fun σ W R => ev_isi (h σ W R) hk
theorem e_isi2 {n m : String} {k1 k2 : Bool} (h : E1 K T P B ta δ d) (h1 : kitB (tyD d) n = some k1) (h2 : kitB (tyD d) m = some k2) :
    E1 K T P B (tCB (rIsiT K) (tCons ta (tCons (tTup (tCons (tC (.ty n)) (tCons (tC (.ty m)) tNil))) tNil))) δ (.bl (k1 || k2)) := fun σ W R => ev_isi2 (h σ W R) h1 h2
theorem ee_cb {r : List V → Hp → VK → Prop} {ta : TA} {A : List D → Prop} (h : Ea K T P B ta δ A) (hr : ∀ ds, A ds → Rt K T r ds C) : E K T P B (tCB r ta) δ C := fun σ W R => ev_cb (h σ W R) fun ds q => hr ds q W
theorem e_cb {r : List V → Hp → VK → Prop} {ta : TA} {ds : List D} (h : Ea1 K T P B ta δ ds) (hr : Rt K T r ds C) : E K T P B (tCB r ta) δ C := fun σ W R => ev_cbD (h σ W R) (hr W)
theorem c_strI (h : i.natAbs.log2 < 1920) : Rt K T (fun xs H Q => ∃ i : Int, xs = [.int i] ∧ i.natAbs.log2 < 1920 ∧ Q (.str (toString i)) H) [.int i] (fun d => d = .str (toString i)) := fun _ => rc_strI h
theorem c_intS {s : Str} {n : Int} (h : PySem.intText? s = some n) (hl : s.length ≤ 640) : Rt K T (fun xs H Q => ∃ a n, xs = [.str a] ∧ PySem.intText? a = some n ∧ a.length ≤ 640 ∧ Q (.int n) H) [.str s] (fun d => d = .int n) := fun _ => rc_intS h hl
theorem c_int1 : Rt K T (fun xs H Q => (∃ i, xs = [.int i] ∧ Q (.int i) H) ∨ ∃ k, xs = [.bl k] ∧ Q (.int (if k then 1 else 0)) H) [.int i] (fun d => d = .int i) := fun _ => rc_int1
theorem c_intB : Rt K T (fun xs H Q => (∃ i, xs = [.int i] ∧ Q (.int i) H) ∨ ∃ k, xs = [.bl k] ∧ Q (.int (if k then 1 else 0)) H) [.bl k] (fun d => d = .int (if k then 1 else 0)) := fun _ => rc_intB
theorem c_tupL {l : List D} : Rt K T (fun xs H Q => ∃ p ys, xs = [.ref p] ∧ ((SqL K H p ys ∧ ∀ l, H l = none → Q (.ref l) (upd H l (.tup ys))) ∨ (SqT K H p ys ∧ Q (.ref p) H))) [.lst l] (fun d => d = .tup l) := fun _ => rc_tupL
theorem c_min2 : Rt K T (fun xs H Q => ∃ i j, xs = [.int i, .int j] ∧ Q (.int (if j < i then j else i)) H) [.int i, .int j] (fun d => d = .int (if j < i then j else i)) := fun _ => rc_min2
theorem c_max2 : Rt K T (fun xs H Q => ∃ i j, xs = [.int i, .int j] ∧ Q (.int (if j > i then j else i)) H) [.int i, .int j] (fun d => d = .int (if j > i then j else i)) := fun _ => rc_max2
theorem p_none : Eo K T P B tNoPart δ none := fun _ _ _ => eo_none
theorem p_some (h : E1 K T P B te δ (.int i)) : Eo K T P B (tPart te) δ (some i) := fun σ W R => eo_some (h σ W R)
theorem e_slL {tl th : TO} {l : List D} {o1 o2 : Option Int} (h : E1 K T P B te δ (.lst l)) (h1 : Eo K T P B tl δ o1) (h2 : Eo K T P B th δ o2) (hr : rowD (cutD l o1 o2) = false) : E1 K T P B (tSl (rSlL K) te tl th) δ (.lst (cutD l o1 o2)) := fun σ W R => ev_slL (h σ W R) (h1 σ W R) (h2 σ W R) hr
theorem e_slT {tl th : TO} {l : List D} {o1 o2 : Option Int} (h : E1 K T P B te δ (.tup l)) (h1 : Eo K T P B tl δ o1) (h2 : Eo K T P B th δ o2) (hr : ¬ (HT.sIx l.length 0 o1 = 0 ∧ HT.sIx l.length l.length o2 = l.length)) : E1 K T P B (tSl (rSlT K) te tl th) δ (.tup (cutD l o1 o2)) := fun σ W R => ev_slT (h σ W R) (h1 σ W R) (h2 σ W R) hr
theorem e_split {x y : Str} (ha : E1 K T P B ta δ (.str x)) (hb : E1 K T P B tb δ (.str y)) (hy : (y.length == 0) = false) (hx : x.length ≤ 1000000) :
    E1 K T P B (tM1 (fun x xs H Q => ∃ a b, x = .str a ∧ xs = [.str b] ∧ (b.length == 0) = false ∧ a.length + 2 ≤ sizeLine ∧ rNewStrs (Txt.split a b) H Q) ta tb) δ (.lst ((Txt.split x y).map .str)) := fun σ W R => ev_split (ha σ W R) (hb σ W R) hy hx
theorem e_join {x : Str} {ys : List Str} (ha : E1 K T P B ta δ (.str x)) (hb : E1 K T P B tb δ (.lst (ys.map .str))) (hz : (ys.map (·.length)).sum + ys.length * x.length ≤ 16777216) :
    E1 K T P B (tM1 (fun x xs H Q => ∃ a p, ∃ ys : List Str, x = .str a ∧ xs = [.ref p] ∧ (SqL K H p (ys.map V.str) ∨ SqT K H p (ys.map V.str)) ∧ (ys.map (·.length)).sum + ys.length * a.length ≤ 16777216 ∧ Q (.str (Txt.join a ys)) H) ta tb) δ (.str (Txt.join x ys)) := fun σ W R => ev_join (ha σ W R) (hb σ W R) hz
/-! ### calls of defs -/
theorem ee_call {ι : Type} {args : ι → List D} {pre : ι → Prop} {post : ι → D → Prop} {X : XK} {ta : TA} {A : List D → Prop} (h : Ea K T P B ta δ A) (hp : ∀ ds, A ds → ∃ n, ds = args n ∧ pre n ∧ ∀ d, post n d → C d) :
    E K T P B (tCall (spF K T P args pre post) [] X ta) δ C := fun σ W R => eve_call (h σ W R) R.g hp
theorem e_call {ι : Type} {args : ι → List D} {pre : ι → Prop} {post : ι → D → Prop} {X : XK} {ta : TA} (n : ι) (h : Ea1 K T P B ta δ (args n)) (hp : pre n) :
    E K T P B (tCall (spF K T P args pre post) [] X ta) δ (post n) := fun σ W R => ev_call n (h σ W R) R.g hp
/-- a call that may raise; X: where the error goes -/
theorem ee_callX {Ca : Addr} {ι : Type} {args : ι → List D} {pre : ι → Prop} {post : ι → D → Prop} {err : ι → Int → Int → Prop} {X : L2.St → XK} {ta : TA} {A : List D → Prop} (h : Ea K T P B ta δ A) (hp : ∀ ds, A ds → ∃ n, ds = args n ∧ pre n ∧ (∀ d, post n d → C d) ∧
      ∀ l p dx H' σ, err n l p → Ex K T B H' → H' dx = some (.xd [("place", .int p), ("line", .int l)]) → X σ (.ref Ca) (some dx) H') :
    E K T P B (tCallS (spX K T P Ca args pre post err) X ta) δ C := fun σ W R H1 e Q q => h σ W R H1 e _ fun ds vs W2 H2 hd z2 rv => by
  obtain ⟨n, rfl, hn, hc, hx⟩ := hp ds hd
  exact ⟨n, W2, z2.to, rv, R.g.mono z2.up, hn, fun d v W3 H3 hd z3 rv => q d v W3 H3 (hc d hd) (z2.trans z3) rv, fun l p dx H' he ex hx' => hx l p dx H' σ he ((R.b.trans z2.up).trans ex) hx'⟩
theorem e_callX {Ca : Addr} {ι : Type} {args : ι → List D} {pre : ι → Prop} {post : ι → D → Prop} {err : ι → Int → Int → Prop} {X : L2.St → XK} {ta : TA} (n : ι) (h : Ea1 K T P B ta δ (args n)) (hn : pre n)
    (hx : ∀ l p dx H' σ, err n l p → Ex K T B H' → H' dx = some (.xd [("place", .int p), ("line", .int l)]) → X σ (.ref Ca) (some dx) H') : E K T P B (tCallS (spX K T P Ca args pre post err) X ta) δ (post n) := ee_callX h fun ds e => ⟨n, e, hn, fun d h => h, hx⟩
end
end K11
/-! K11F: what loops walk, comprehensions, lists of one's own, statements. -/
namespace K11
open PySem PySem.Spec
open L2
section
variable (K : PySem.W.Frag) (T : List (Addr × Str)) (P : List Addr) (B : Hp)
/-- n turns, at turn i the datum el i -/
structure ItOk (J : It) (W : Hp) (n : Nat) (el : Nat → D) : Prop where
  stop : ∀ H3, Ex K T W H3 → J.stop n H3
  go : ∀ i H3, i < n → Ex K T W H3 → J.go i H3
  yld : ∀ i W3 H3 x H4, i < n → Ex K T W W3 → Ex K T W3 H3 → J.yld i H3 x H4 → ∃ W5, Vw K T W3 H3 W5 H4 ∧ Rp K W5 (el i) x
def Io (wi : TI) (δ : List Sl) (Z : Nat → (Nat → D) → Prop) : Prop :=
  ∀ σ W, Rs K T P B W δ σ → ∀ H1, Ex K T W H1 → ∀ R : It → Hp → Prop, (∀ J W2 H2 n el, Z n el → Vw K T W H1 W2 H2 → ItOk K T J W2 n el → R J H2) → wi σ H1 R
abbrev Io1 (wi : TI) (δ : List Sl) (n : Nat) (el : Nat → D) : Prop := Io K T P B wi δ (fun n' el' => n' = n ∧ el' = el)
/-- a list of the def's own -/
structure Ow (W H H1 : Hp) (p : Addr) (ds : List D) : Prop where
  w : W p = none
  h : H p = none
  ex : ∃ xs, H1 p = some (.lst xs) ∧ RpL K W ds xs ∧ rowish xs = false
structure SS (W0 H W H1 : Hp) (δ : List Sl) (σ : L2.St) : Prop where
  y : Vv K T W0 H W H1
  r : Rs K T P B W δ σ
end
section
variable {K : PySem.W.Frag} {T : List (Addr × Str)} {P : List Addr} {B : Hp} {σ : L2.St} {δ : List Sl} {W W' W0 H H' H1 H2 : Hp} {ta tb tc te : TE} {t u : TT} {A C : D → Prop} {a b c d : D} {r : R2} {i j : Int} {k : Bool} {Z : Nat → (Nat → D) → Prop} {wi : TI}
/-! ### what loops walk -/
theorem itL {l : List D} {p : Addr} {xs : List V} (hs : W p = some (.lst xs)) (g : rowish xs = false) (hl : RpL K W l xs) : ItOk K T (Itl K p) W l.length (fun i => l.getD i .non) := by
  have len := rpl_len hl
  refine ⟨fun H3 e => ⟨xs, SqL.of (e.keep _ _ hs g), by omega⟩, fun i H3 hi e => ?_, fun i W3 H3 x H4 hi e e3 h => ?_⟩
  · exact ⟨xs, xs[i], SqL.of (e.keep _ _ hs g), List.getElem?_eq_getElem (by omega)⟩
  · obtain ⟨rfl, hx⟩ := h
    have q := hx xs (SqL.of (e3.keep _ _ (e.keep _ _ hs g) g))
    have q2 : l[i]? = some (l.getD i .non) := by
      rw [List.getD_eq_getElem?_getD, List.getElem?_eq_getElem hi]
      rfl
    obtain ⟨v, e1, e2⟩ := rpl_get hl q2
    rw [q] at e1
    cases e1
    have z := Vw.same e3
    exact ⟨_, z, ex_rp (e.trans z.up) _ _ e2⟩
theorem itT {l : List D} {p : Addr} {xs : List V} (hs : SqT K W p xs) (hl : RpL K W l xs) : ItOk K T (Itt K p) W l.length (fun i => l.getD i .non) := by
  have len := rpl_len hl
  refine ⟨fun H3 e => ⟨xs, ex_st e hs, by omega⟩, fun i H3 hi e => ?_, fun i W3 H3 x H4 hi e e3 h => ?_⟩
  · exact ⟨xs, xs[i], ex_st e hs, List.getElem?_eq_getElem (by omega)⟩
  · obtain ⟨rfl, hx⟩ := h
    have q := hx xs (ex_st (e.trans e3) hs)
    have q2 : l[i]? = some (l.getD i .non) := by
      rw [List.getD_eq_getElem?_getD, List.getElem?_eq_getElem hi]
      rfl
    obtain ⟨v, e1, e2⟩ := rpl_get hl q2
    rw [q] at e1
    cases e1
    have z := Vw.same e3
    exact ⟨_, z, ex_rp (e.trans z.up) _ _ e2⟩
theorem io_list {l : List D} (h : E1 K T P B te δ (.lst l)) : Io1 K T P B (iList K te) δ l.length (fun i => l.getD i .non) := fun σ W R H1 e Rr q => h σ W R H1 e _ fun d v W2 H2 hd z rv => by
  subst hd
  obtain ⟨p, xs, rfl, hs, g, hl⟩ := rv
  exact ⟨p, rfl, ⟨xs, SqL.of (z.to.keep _ _ hs g)⟩, q _ W2 H2 _ _ ⟨rfl, rfl⟩ z (itL hs g hl)⟩
theorem io_listA {A : List D → Prop} (h : E K T P B te δ (fun d => ∃ l, d = .lst l ∧ A l)) : Io K T P B (iList K te) δ (fun n el => ∃ l, A l ∧ n = l.length ∧ el = fun i => l.getD i .non) := fun σ W R H1 e Rr q => h σ W R H1 e _ fun d v W2 H2 hd z rv => by
  obtain ⟨l, rfl, hA⟩ := hd
  obtain ⟨p, xs, rfl, hs, g, hl⟩ := rv
  exact ⟨p, rfl, ⟨xs, SqL.of (z.to.keep _ _ hs g)⟩, q _ W2 H2 _ _ ⟨l, hA, rfl, rfl⟩ z (itL hs g hl)⟩
theorem io_tup {l : List D} (h : E1 K T P B te δ (.tup l)) : Io1 K T P B (iTup K te) δ l.length (fun i => l.getD i .non) := fun σ W R H1 e Rr q => h σ W R H1 e _ fun d v W2 H2 hd z rv => by
  subst hd
  obtain ⟨p, xs, rfl, hs, hl⟩ := rv
  exact ⟨p, rfl, ⟨xs, ex_st z.to hs⟩, q _ W2 H2 _ _ ⟨rfl, rfl⟩ z (itT hs hl)⟩
theorem it_rng {lo : Int} {n : Nat} : ItOk K T (Itr lo n) W n (fun i => .int (lo + (i : Int))) := by
  refine ⟨fun _ _ => Nat.le_refl _, fun i _ h _ => h, fun i W3 H3 x H4 hi e e3 h => ?_⟩
  obtain ⟨rfl, rfl⟩ := h
  exact ⟨_, Vw.same e3, rp_i⟩
theorem io_rng1 {ta : TA} {n : Int} (h : Ea1 K T P B ta δ [.int n]) (h1 : -100000 ≤ n) (h2 : n ≤ 100000) : Io1 K T P B (iRng1 ta) δ n.toNat (fun i => .int (i : Int)) := fun σ W R H1 e Rr q => h σ W R H1 e _ fun d vs W2 H2 hd z rv => by
  subst hd
  match vs, rv with
  | [_], ⟨rfl, _⟩ =>
    refine ⟨n, rfl, by omega, by omega, q _ W2 H2 _ _ ⟨rfl, rfl⟩ z ?_⟩
    have h := it_rng (K := K) (T := T) (W := W2) (lo := 0) (n := n.toNat)
    simpa using h
theorem io_rng1A {ta : TA} {A : Int → Prop} (h : Ea K T P B ta δ (fun ds => ∃ n, ds = [.int n] ∧ A n)) (hA : ∀ n, A n → -100000 ≤ n ∧ n ≤ 100000) : Io K T P B (iRng1 ta) δ (fun n el => ∃ m : Int, A m ∧ n = m.toNat ∧ el = fun i => .int (i : Int)) := fun σ W R H1 e Rr q => h σ W R H1 e _ fun d vs W2 H2 hd z rv => by
  obtain ⟨n, rfl, hn⟩ := hd
  have hh := hA n hn
  match vs, rv with
  | [_], ⟨rfl, _⟩ =>
    refine ⟨n, rfl, by omega, by omega, q _ W2 H2 _ _ ⟨n, hn, rfl, rfl⟩ z ?_⟩
    have h := it_rng (K := K) (T := T) (W := W2) (lo := 0) (n := n.toNat)
    simpa using h
theorem io_rng2 {ta : TA} {m n : Int} (h : Ea1 K T P B ta δ [.int m, .int n]) (h1 : -100000 ≤ m ∧ m ≤ 100000) (h2 : -100000 ≤ n ∧ n ≤ 100000) : Io1 K T P B (iRng2 ta) δ (n - m).toNat (fun i => .int (m + (i : Int))) := fun σ W R H1 e Rr q => h σ W R H1 e _ fun d vs W2 H2 hd z rv => by
  subst hd
  match vs, rv with
  | [_, _], ⟨rfl, rfl, _⟩ => exact ⟨m, n, rfl, ⟨by omega, by omega, by omega, by omega⟩, q _ W2 H2 _ _ ⟨rfl, rfl⟩ z it_rng⟩
theorem getDq {l : List D} {i : Nat} (hi : i < l.length) : l[i]? = some (l.getD i .non) := by
  rw [List.getD_eq_getElem?_getD, List.getElem?_eq_getElem hi]
  rfl
theorem pair_new {x y : V} {z : Addr} (e : Ex K T W H) (hz : H z = none) (ra : Rp K W a x) (rb : Rp K W b y) : ∃ W5, Vw K T W H W5 (upd H z (.tup [x, y])) ∧ Rp K W5 (.tup [a, b]) (.ref z) := by
  have u := Vw.new (o := .tup [x, y]) e hz
  exact ⟨_, u, z, [x, y], rfl, SqT.of (wv_new hz), ex_rp u.up _ _ ra, ex_rp u.up _ _ rb, True.intro⟩
theorem it_enum {l : List D} {p : Addr} {xs : List V} (hs : W p = some (.lst xs)) (g : rowish xs = false) (hl : RpL K W l xs) : ItOk K T (Ite K p) W l.length (fun i => .tup [.int (i : Int), l.getD i .non]) := by
  have len := rpl_len hl
  refine ⟨fun H3 e => ⟨xs, SqL.of (e.keep _ _ hs g), by omega⟩, fun i H3 hi e => ?_, fun i W3 H3 x H4 hi e e3 h => ?_⟩
  · exact ⟨xs, xs[i], SqL.of (e.keep _ _ hs g), List.getElem?_eq_getElem (by omega)⟩
  · obtain ⟨z, y, rfl, hz, rfl, hx⟩ := h
    have q := hx xs (SqL.of (e3.keep _ _ (e.keep _ _ hs g) g))
    obtain ⟨v, e1, e2⟩ := rpl_get hl (getDq hi)
    rw [q] at e1
    cases e1
    exact pair_new e3 hz rp_i (ex_rp e _ _ e2)
theorem io_enum {ta : TA} {l : List D} (h : Ea1 K T P B ta δ [.lst l]) : Io1 K T P B (iEnum K ta) δ l.length (fun i => .tup [.int (i : Int), l.getD i .non]) := fun σ W R H1 e Rr q => h σ W R H1 e _ fun d vs W2 H2 hd z rv => by
  subst hd
  match vs, rv with
  | [_], ⟨⟨p, xs, rfl, hs, g, hl⟩, _⟩ => exact ⟨p, xs, rfl, SqL.of (z.to.keep _ _ hs g), q _ W2 H2 _ _ ⟨rfl, rfl⟩ z (it_enum hs g hl)⟩
theorem io_zipLL {ta : TA} {l m : List D} (h : Ea1 K T P B ta δ [.lst l, .lst m]) (hl : l.length = m.length) : Io1 K T P B (RZ.iZipA K ta) δ l.length (fun i => .tup [l.getD i .non, m.getD i .non]) := fun σ W R H1 e Rr q => h σ W R H1 e _ fun d vs W2 H2 hd z rv => by
  subst hd
  match vs, rv with
  | [_, _], ⟨⟨p, xs, rfl, hs, g, h1⟩, ⟨p', ys, rfl, hs', g', h2⟩, _⟩ =>
    have l1 := rpl_len h1
    have l2 := rpl_len h2
    refine ⟨p, p', xs, ys, rfl, .inl ⟨SqL.of (z.to.keep _ _ hs g), SqL.of (z.to.keep _ _ hs' g'), q _ W2 H2 _ _ ⟨rfl, rfl⟩ z ⟨fun H3 e => ⟨xs, ys, SqL.of (e.keep _ _ hs g), SqL.of (e.keep _ _ hs' g'), .inl (by omega)⟩, fun i H3 hi e => ?_, fun i W3 H3 x H4 hi e e3 h => ?_⟩⟩⟩
    · exact ⟨xs, ys, xs[i], ys[i], SqL.of (e.keep _ _ hs g), SqL.of (e.keep _ _ hs' g'), List.getElem?_eq_getElem (by omega), List.getElem?_eq_getElem (by omega)⟩
    · obtain ⟨w, y, y', rfl, hz, rfl, hx, hy⟩ := h
      have q1 := hx xs (SqL.of (e3.keep _ _ (e.keep _ _ hs g) g))
      have q2 := hy ys (SqL.of (e3.keep _ _ (e.keep _ _ hs' g') g'))
      obtain ⟨v, e1, e2⟩ := rpl_get h1 (getDq hi)
      obtain ⟨v', e1', e2'⟩ := rpl_get h2 (getDq (i := i) (by omega))
      rw [q1] at e1
      rw [q2] at e1'
      cases e1
      cases e1'
      exact pair_new e3 hz (ex_rp e _ _ e2) (ex_rp e _ _ e2')
theorem it_zipTT {l m : List D} {p p' : Addr} {xs ys : List V} (hs : SqT K W p xs) (h1 : RpL K W l xs) (hs' : SqT K W p' ys) (h2 : RpL K W m ys) (hl : l.length = m.length) : ItOk K T (RZ.ItzT K p p') W l.length (fun i => .tup [l.getD i .non, m.getD i .non]) := by
  have l1 := rpl_len h1
  have l2 := rpl_len h2
  refine ⟨fun H3 e => ⟨xs, ys, ex_st e hs, ex_st e hs', .inl (by omega)⟩, fun i H3 hi e => ?_, fun i W3 H3 x H4 hi e e3 h => ?_⟩
  · exact ⟨xs, ys, xs[i], ys[i], ex_st e hs, ex_st e hs', List.getElem?_eq_getElem (by omega), List.getElem?_eq_getElem (by omega)⟩
  · obtain ⟨w, y, y', rfl, hz, rfl, hx, hy⟩ := h
    have q1 := hx xs (ex_st (e.trans e3) hs)
    have q2 := hy ys (ex_st (e.trans e3) hs')
    obtain ⟨v, e1, e2⟩ := rpl_get h1 (getDq hi)
    obtain ⟨v', e1', e2'⟩ := rpl_get h2 (getDq (i := i) (by omega))
    rw [q1] at e1
    rw [q2] at e1'
    cases e1
    cases e1'
    exact pair_new e3 hz (ex_rp e _ _ e2) (ex_rp e _ _ e2')
/-! ### targets -/
/-- the target g, given the datum d, makes of the slots δ the slots δ' -/
def Tg (K : PySem.W.Frag) (T : List (Addr × Str)) (P : List Addr) (B : Hp) (g : TG) (d : D) (vs : List Nat) (δ δ' : List Sl) : Prop :=
  ∀ x W H (Q : L2.St → Hp → Prop) σ, Rs K T P B W δ σ → Ex K T W H → Rp K W d x → (∀ σ', Rs K T P B W δ' σ' → σ'.length = σ.length → (∀ i, i ∉ vs → σ'[i]? = σ[i]?) → Q σ' H) → g x σ H Q
theorem tg_name {n : Nat} {vs : List Nat} (h : n ∈ vs := by decide) : Tg K T P B (gName n) d vs δ (δ.set n (.d d)) := fun x W H Q σ R e rx q => q _ (R.set rx) (List.length_set ..) fun i hi => by
  rw [List.getElem?_set, if_neg (by rintro rfl; exact hi h)]
theorem tg_nm {n : Nat} : ∀ x W H (Q : L2.St → Hp → Prop) σ, Rs K T P B W δ σ → Rp K W d x → (∀ σ', Rs K T P B W (δ.set n (.d d)) σ' → Q σ' H) → gName n x σ H Q := fun x W H Q σ R rx q => q _ (R.set rx)
theorem tg_pair {n m : Nat} {vs : List Nat} (h : n ∈ vs := by decide) (h' : m ∈ vs := by decide) : Tg K T P B (gTup K 2 (gCons (gName n) (gCons (gName m) gNil))) (.tup [a, b]) vs δ ((δ.set n (.d a)).set m (.d b)) := fun x W H Q σ R e rx q => by
  obtain ⟨p, xs, rfl, hs, hl⟩ := rx
  match xs, hl with
  | [v, w], ⟨ra, rb, _⟩ =>
    exact ⟨p, [v, w], rfl, ex_st e hs, rfl, v, [w], rfl, w, [], rfl, rfl, q _ ((R.set ra).set rb) (by rw [List.length_set, List.length_set]) fun i hi => by
      rw [List.getElem?_set, if_neg (by rintro rfl; exact hi h'), List.getElem?_set, if_neg (by rintro rfl; exact hi h)]⟩
/-! ### comprehensions -/
theorem el_lc {g : TG} {tt : TT} {vs : List Nat} {A : List D → Prop} {δ' : Nat → (Nat → D) → Nat → List Sl} (hs : Io K T P B wi δ Z) (hg : ∀ n el i, Z n el → i < n → Tg K T P B g (el i) vs (wipeS δ vs) (δ' n el i))
    (hr : ∀ n el, Z n el → ∃ Acc : Nat → List D → Prop, Acc 0 [] ∧ (∀ i l, Acc i l → rowD l = false ∧ l.length ≤ 100000) ∧ (∀ l, Acc n l → A l) ∧
      ∀ i l, i < n → Acc i l → ∃ C : Bool → Prop, Et K T P B tt (δ' n el i) C ∧ (C true → E K T P B te (δ' n el i) (fun d => Acc (i + 1) (l ++ [d]))) ∧ (C false → Acc (i + 1) l)) :
    El K T P B (tLc wi g tt te vs) δ A := fun σ W R H1 e Q q => hs σ W R H1 e _ fun J W2 H2 n el hZ z2 S => by
  obtain ⟨Acc, h0, hr, hf, ht⟩ := hr n el hZ
  intro Dl hD
  have k0 := (Vv.start z2.to).own (o := .lst []) hD
  refine ⟨fun i m H3 => m + i = n ∧ ∃ W3 l xs, Vv K T W2 H2 W3 H3 ∧ W3 Dl = none ∧ H3 Dl = some (.lst xs) ∧ RpL K W3 l xs ∧ Acc i l, ⟨n, Nat.add_zero n, W2, [], [], k0.1, k0.2.1, upd_same, True.intro, h0⟩, ?_⟩
  rintro i m H3 ⟨hm, W3, l, xs, y3, n3, hl, rl, hA⟩
  have row := rowish_of rl (hr i l hA).1
  by_cases hi : i < n
  · refine .inr ⟨S.go i H3 hi (y3.up.trans y3.to), fun H' => (m - 1) + (i + 1) = n ∧ ∃ W3 l xs, Vv K T W2 H2 W3 H' ∧ W3 Dl = none ∧ H' Dl = some (.lst xs) ∧ RpL K W3 l xs ∧ Acc (i + 1) l, fun H' h => ⟨m - 1, by omega, h⟩, fun x H4 hy => ?_⟩
    obtain ⟨W5, z5, r5⟩ := S.yld i W3 H3 x H4 hi y3.up y3.to hy
    have R5 := (R.mono (z2.up.trans (y3.up.trans z5.up))).wipe (vs := vs)
    refine hg n el i hZ hi x W5 H4 _ _ R5 z5.to r5 fun σ2 R2 hwl hw => ⟨(wipe_eq hwl hw).trans (wipe_eq (by rw [wipe_length]) fun i q => by rw [wipe_get, if_neg q]), ?_⟩
    have h3 : H3 Dl ≠ none := by rw [hl]; simp
    have l5 := z5.ac.keep _ _ hl row
    have n5 := z5.not n3 h3 l5
    have y5 := y3.step z5
    obtain ⟨C, hB, h1, h2⟩ := ht i l hi hA
    refine hB σ2 W5 R2 H4 y5.to _ fun b W6 H6 hb z6 => ?_
    have l6 := z6.ac.keep _ _ l5 row
    have n6 := z6.not n5 (by rw [l5]; simp) l6
    have y6 := y5.step z6
    have r6 := ex_rpl (z5.up.trans z6.up) _ _ rl
    cases b with
    | true =>
      rw [if_pos rfl]
      refine h1 hb σ2 W6 (R2.mono z6.up) H6 y6.to _ fun d v W7 H7 hd z7 rv => ?_
      have l7 := z7.ac.keep _ _ l6 row
      have n7 := z7.not n6 (by rw [l6]; simp) l7
      have y7 := y6.step z7
      have hlen := (hr i l hA).2
      have h2n : H2 Dl = none := hD
      exact ⟨xs, l7, by rw [rpl_len rl]; exact Nat.lt_of_le_of_lt hlen (by decide), by omega, W7, l ++ [d], xs ++ [v], y7.mut n7 h2n l7 row, n7, upd_same, rpl_app (ex_rpl z7.up _ _ r6) ⟨rv, True.intro⟩, hd⟩
    | false =>
      rw [if_neg Bool.false_ne_true]
      exact ⟨by omega, W6, l, xs, y6, n6, l6, r6, h2 hb⟩
  · have e4 : i = n := by omega
    subst e4
    refine .inl ⟨S.stop H3 (y3.up.trans y3.to), ?_⟩
    have hd2 : H2 Dl = none := hD
    refine q l xs Dl W3 H3 (hf l hA) ⟨z2.up.trans y3.up, y3.to, z2.ac.trans y3.ac, fun b o h nc hw => ?_⟩ n3 (z2.ac.has _ hd2) hl row rl
    cases qb : W2 b with
    | none => exact z2.ac.has b (y3.fr b o h nc qb)
    | some o2 =>
      refine z2.fr b o2 qb (fun r hr => ?_) hw
      have kk := y3.up.keep b o2 qb (by rw [hr]; rfl)
      rw [h] at kk
      rw [← Option.some.inj kk] at hr
      exact nc r hr
theorem EvL.e {A : List D → Prop} (h : EvL K T te σ W A) : EvE K T te σ W (fun d => ∃ l, d = .lst l ∧ A l) := fun H1 e Q q => h H1 e Q fun ds xs p W' H' hA y n1 n2 hl g rl => by
  obtain ⟨z, ez⟩ := y.fin e
  exact q _ _ _ H' ⟨ds, rfl, hA⟩ z ⟨p, xs, rfl, (rs_in (.inr (.inr n2))).trans hl, g, ex_rpl ez _ _ rl⟩
theorem El.e {A : List D → Prop} (h : El K T P B te δ A) : E K T P B te δ (fun d => ∃ l, d = .lst l ∧ A l) := fun σ W R => (h σ W R).e
theorem El.e1 {l : List D} (h : El K T P B te δ (fun x => x = l)) : E1 K T P B te δ (.lst l) := h.e.imp fun d ⟨_, h1, h2⟩ => by rw [h1, h2]
/-- each item by itself -/
theorem el_lcM {g : TG} {vs : List Nat} {n : Nat} {el : Nat → D} {f : Nat → D} {δ' : Nat → List Sl} (hs : Io1 K T P B wi δ n el) (hg : ∀ i, i < n → Tg K T P B g (el i) vs (wipeS δ vs) (δ' i)) (hn : n ≤ 100000) (hr : ∀ i, i ≤ n → rowD ((List.range i).map f) = false)
    (h : ∀ i, i < n → E1 K T P B te (δ' i) (f i)) : El K T P B (tLc wi g tYes te vs) δ (fun l => l = (List.range n).map f) := by
  refine el_lc (δ' := fun _ _ i => δ' i) hs (fun n' el' i hz hi => ?_) fun n' el' hz => ⟨fun i l => i ≤ n ∧ l = (List.range i).map f, ⟨Nat.zero_le _, rfl⟩, ?_, ?_, ?_⟩
  · obtain ⟨rfl, rfl⟩ := hz
    exact hg i hi
  · rintro i l ⟨h1, rfl⟩
    exact ⟨hr i h1, by rw [List.length_map, List.length_range]; omega⟩
  · rintro l ⟨_, h2⟩
    rw [h2, hz.1]
  · rintro i l hi ⟨h1, rfl⟩
    obtain ⟨rfl, rfl⟩ := hz
    refine ⟨fun b => b = true, fun σ W R H1 e Q q => q true _ H1 rfl (Vw.same e), fun _ => (h i hi).imp fun d hd => ⟨hi, ?_⟩, fun z => absurd z Bool.false_ne_true⟩
    rw [hd, List.range_succ, List.map_append]
    rfl
theorem map_range_getD {α : Type} (l : List D) (f : D → α) : (List.range l.length).map (fun i => f (l.getD i .non)) = l.map f := by
  apply List.ext_getElem
  · simp
  · intro i h1 h2
    simp only [List.getElem_map, List.getElem_range]
    congr 1
    rw [List.getD_eq_getElem?_getD, List.getElem?_eq_getElem (by simpa using h2)]
    rfl
/-! ### other new lists -/
theorem vv_newL {W2 : Hp} {p : Addr} {xs : List V} (z : Vw K T W H1 W2 H2) (hp : H2 p = none) : Vv K T W H1 W2 (upd H2 p (.lst xs)) ∧ W2 p = none ∧ H1 p = none := z.vv.own hp
theorem el_lst {ta : TA} {ds : List D} (h : Ea1 K T P B ta δ ds) (hr : rowD ds = false := by rfl) (hl : ds.length ≤ 100000 := by decide) : El K T P B (tLst ta) δ (fun l => l = ds) := fun σ W R H1 e Q q => h σ W R H1 e _ fun d vs W2 H2 hd z rv => by
  subst hd
  refine ⟨by rw [rpl_len rv]; exact Nat.le_trans hl (by decide), fun p hp => ?_⟩
  have y := vv_newL (xs := vs) z hp
  exact q _ vs p W2 _ rfl y.1 y.2.1 y.2.2 upd_same (rowish_of rv hr) rv
theorem el_cat {l m : List D} (ha : E1 K T P B ta δ (.lst l)) (hb : E1 K T P B tb δ (.lst m)) (h : l.length + m.length ≤ 100000) (hr : rowD (l ++ m) = false) : El K T P B (tOp rCat ta tb) δ (fun x => x = l ++ m) := fun σ W R H1 e Q q =>
  ha σ W R H1 e _ fun d v W2 H2 hd z2 rv => (hb σ W2 (R.mono z2.up)) H2 z2.to _ fun d' w W3 H3 hd' z3 rw' => by
    subst hd
    subst hd'
    obtain ⟨p, xs, rfl, hs, g, hl⟩ := ex_rp z3.up _ _ rv
    obtain ⟨p', ys, rfl, hs', g', hm⟩ := rw'
    have hz : xs.length + ys.length ≤ 100000 := by
      rw [rpl_len hl, rpl_len hm]
      exact h
    have ha := rpl_app hl hm
    refine ⟨p, p', xs, ys, rfl, rfl, z3.to.keep _ _ hs g, z3.to.keep _ _ hs' g', Nat.le_trans hz (by decide), fun u nu => ?_⟩
    have y := vv_newL (xs := xs ++ ys) (z2.trans z3) nu
    exact q _ _ u W3 _ rfl y.1 y.2.1 y.2.2 upd_same (rowish_of ha hr) ha
theorem el_catA {A2 : List D → Prop} {A3 : List D → Prop} (ha : E K T P B ta δ (fun d => ∃ l, d = .lst l ∧ A2 l)) (hb : ∀ l, A2 l → E K T P B tb δ (fun d => ∃ m, d = .lst m ∧ A3 (l ++ m))) (h : ∀ l, A3 l → l.length ≤ 100000 ∧ rowD l = false) : El K T P B (tOp rCat ta tb) δ A3 := fun σ W R H1 e Q q =>
  ha σ W R H1 e _ fun d v W2 H2 ⟨l, hd, hl2⟩ z2 rv => (hb l hl2 σ W2 (R.mono z2.up)) H2 z2.to _ fun d' w W3 H3 ⟨m, hd', hA⟩ z3 rw' => by
    subst hd
    subst hd'
    obtain ⟨p, xs, rfl, hs, g, hl⟩ := ex_rp z3.up _ _ rv
    obtain ⟨p', ys, rfl, hs', g', hm⟩ := rw'
    have hh := h _ hA
    have hz : xs.length + ys.length ≤ 100000 := by
      rw [rpl_len hl, rpl_len hm, ← List.length_append]
      exact hh.1
    have ha := rpl_app hl hm
    refine ⟨p, p', xs, ys, rfl, rfl, z3.to.keep _ _ hs g, z3.to.keep _ _ hs' g', Nat.le_trans hz (by decide), fun u nu => ?_⟩
    have y := vv_newL (xs := xs ++ ys) (z2.trans z3) nu
    exact q _ _ u W3 _ hA y.1 y.2.1 y.2.2 upd_same (rowish_of ha hh.2) ha
theorem el_split {x y : Str} (ha : E1 K T P B ta δ (.str x)) (hb : E1 K T P B tb δ (.str y)) (hy : (y.length == 0) = false) (hx : x.length ≤ 1000000) :
    El K T P B (tM1 (fun x xs H Q => ∃ a b, x = .str a ∧ xs = [.str b] ∧ (b.length == 0) = false ∧ a.length + 2 ≤ sizeLine ∧ rNewStrs (Txt.split a b) H Q) ta tb) δ (fun l => l = (Txt.split x y).map .str) := fun σ W R H1 e Q q =>
  ha σ W R H1 e _ fun d v W2 H2 hd z2 rv => by
    subst hd
    cases rp_str rv
    refine ⟨⟨x, rfl⟩, (hb σ W2 (R.mono z2.up)) H2 z2.to _ fun d w W3 H3 hd z3 rw' => ?_⟩
    subst hd
    cases rp_str rw'
    have hz : x.length + 2 ≤ sizeLine := Nat.le_trans (Nat.add_le_add_right hx 2) (by decide)
    refine ⟨x, y, rfl, rfl, hy, hz, fun p np => ?_⟩
    have u := vv_newL (xs := (Txt.split x y).map .str) (z2.trans z3) np
    exact q _ _ p W3 _ rfl u.1 u.2.1 u.2.2 upd_same (rowish_of (K := K) (H := H3) (rpl_strs _) (rowD_str _)) (rpl_strs _)
/-! ### lists of one's own -/
theorem Vv.trans {W2 : Hp} (y : Vv K T W0 H W H1) (z : Vv K T W H1 W2 H2) : Vv K T W0 H W2 H2 := by
  refine ⟨y.up.trans z.up, z.to, y.ac.trans z.ac, fun b o h nc hw => ?_⟩
  cases q : W b with
  | none => exact y.ac.has b (z.fr b o h nc q)
  | some u =>
    refine y.fr b u q (fun r hr => ?_) hw
    have k := z.up.keep b u q (by rw [hr]; rfl)
    rw [h] at k
    rw [← Option.some.inj k] at hr
    exact nc r hr
theorem Vv.same (y : Vv K T W0 H W H1) (e : Ex K T H1 H2) : Vv K T W0 H W H2 := ⟨y.up, y.to.trans e, y.ac.trans e, y.fr⟩
theorem Ow.step {p : Addr} {ds : List D} (o : Ow K W H H1 p ds) (z : Vv K T W H1 W' H2) : Ow K W' H H2 p ds := by
  obtain ⟨hw, hh, xs, h1, rl, g⟩ := o
  have h2 := z.ac.keep _ _ h1 g
  refine ⟨?_, hh, xs, h2, ex_rpl z.up _ _ rl, g⟩
  cases q : W' p with
  | none => rfl
  | some u =>
    refine absurd (z.fr p u q (fun r hr => ?_) hw) (by rw [h1]; simp)
    have k : u = .lst xs ∨ gst u = true := by
      cases gq : gst u with
      | true => exact .inr rfl
      | false =>
        have k := z.to.keep p u q gq
        rw [h2] at k
        exact .inl (Option.some.inj k).symm
    rcases k with k | k
    · rw [hr] at k
      cases k
    · rw [hr] at k
      cases k
theorem Ow.stay {p : Addr} {ds : List D} (o : Ow K W H H1 p ds) (e : Ex K T H1 H2) : Ow K W H H2 p ds := by
  obtain ⟨hw, hh, xs, h1, rl, g⟩ := o
  exact ⟨hw, hh, xs, e.keep _ _ h1 g, rl, g⟩
theorem Ow.other {p q : Addr} {ds : List D} {o : HO} (h : Ow K W H H1 p ds) (n : p ≠ q) : Ow K W H (upd H1 q o) p ds := by
  obtain ⟨hw, hh, xs, h1, rl, g⟩ := h
  exact ⟨hw, hh, xs, (upd_ne n).trans h1, rl, g⟩
theorem SS.step (s : SS K T P B W0 H W H1 δ σ) (z : Vv K T W H1 W' H2) : SS K T P B W0 H W' H2 δ σ := ⟨s.y.trans z, s.r.mono z.up⟩
theorem SS.stay (s : SS K T P B W0 H W H1 δ σ) (e : Ex K T H1 H2) : SS K T P B W0 H W H2 δ σ := ⟨s.y.same e, s.r⟩
theorem SS.set {n : Nat} {v : V} (s : SS K T P B W0 H W H1 δ σ) (h : Rp K W d v) : SS K T P B W0 H W H1 (δ.set n (.d d)) (σ.set n (some v)) := ⟨s.y, s.r.set h⟩
/-- a list of one's own is looked at: the whole heap is known for a moment -/
theorem SS.look {p : Addr} {ds : List D} {n : Nat} (s : Rs K T P B W δ σ) (e : Ex K T W H1) (o : Ow K W H H1 p ds) (h : δ[n]? = some (.own p)) : Rs K T P B H1 (δ.set n (.d (.lst ds))) σ := by
  obtain ⟨hw, hh, xs, h1, rl, g⟩ := o
  refine ⟨rps_tell n (rps_mono e s.s) fun x hx => ?_, s.g.mono e, s.b.trans e⟩
  obtain ⟨y, hy, hz⟩ := rps_get s.s h
  rw [hx] at hy
  cases hy
  exact ⟨.ref p, hz, p, xs, rfl, h1, g, ex_rpl e _ _ rl⟩
theorem SS.look2 {p : Addr} {ds : List D} {n : Nat} (s : Rs K T P B H1 δ σ) (e : Ex K T W H1) (o : Ow K W H H1 p ds) (h : δ[n]? = some (.own p)) : Rs K T P B H1 (δ.set n (.d (.lst ds))) σ := by
  obtain ⟨hw, hh, xs, h1, rl, g⟩ := o
  refine ⟨rps_tell n s.s fun x hx => ?_, s.g, s.b⟩
  obtain ⟨y, hy, hz⟩ := rps_get s.s h
  rw [hx] at hy
  cases hy
  exact ⟨.ref p, hz, p, xs, rfl, h1, g, ex_rpl e _ _ rl⟩
/-- it is changed no more -/
theorem SS.release {p : Addr} {ds : List D} {n : Nat} (s : SS K T P B W0 H W H1 δ σ) (o : Ow K W H H1 p ds) (h : δ[n]? = some (.own p)) :
    ∃ W', SS K T P B W0 H W' H1 (δ.set n (.d (.lst ds))) σ ∧ Ex K T W W' ∧ ∀ q es, Ow K W H H1 q es → q ≠ p → Ow K W' H H1 q es := by
  obtain ⟨hw, hh, xs, h1, rl, g⟩ := o
  have e : Ex K T W (rs (fun b => (∃ q, H1 b = some (LamX.CodeO b q)) ∨ W b ≠ none ∨ b = p) H1) := s.y.to.inRs (fun b h => .inr (.inl h)) fun b q h => .inl ⟨q, h⟩
  refine ⟨_, ⟨⟨s.y.up.trans e, Ex.rs, s.y.ac, fun b o hb nc h0 => ?_⟩, rps_tell n (rps_mono e s.r.s) fun x hx => ?_, s.r.g.mono e, s.r.b.trans e⟩, e, fun q es z hq => ?_⟩
  · obtain ⟨k1, k2⟩ := rs_some hb
    rcases k1 with ⟨q, k1⟩ | k1 | k1
    · rw [k1] at k2
      exact absurd (Option.some.inj k2).symm (nc q)
    · cases qb : W b with
      | none => exact absurd qb k1
      | some u =>
        refine s.y.fr b u qb (fun r hr => ?_) h0
        have k := e.keep b u qb (by rw [hr]; rfl)
        rw [hb] at k
        rw [← Option.some.inj k] at hr
        exact nc r hr
    · rw [k1]
      exact hh
  · obtain ⟨y, hy, hz⟩ := rps_get s.r.s h
    rw [hx] at hy
    cases hy
    exact ⟨.ref p, hz, p, xs, rfl, (rs_in (.inr (.inr rfl))).trans h1, g, ex_rpl e _ _ rl⟩
  · obtain ⟨zw, zh, ys, z1, zr, zg⟩ := z
    refine ⟨rs_out fun k => ?_, zh, ys, z1, ex_rpl e _ _ zr, zg⟩
    rcases k with ⟨q', k⟩ | k | k
    · rw [z1] at k
      cases k
    · exact k zw
    · exact hq k
/-! ### statements -/
variable {D0 : Ends} {tu tw : TS}
theorem s_asg {n : Nat} (h : E K T P B te δ A) (s : SS K T P B W0 H W H1 δ σ) (k : ∀ d v W' H2, A d → Vw K T W H1 W' H2 → SS K T P B W0 H W' H2 (δ.set n (.d d)) (σ.set n (some v)) → D0.nx (σ.set n (some v)) H2) : tAsg te (gName n) D0 σ H1 :=
  h σ W s.r H1 s.y.to _ fun d v W' H2 hd z rv => k d v W' H2 hd z ((s.step z.vv).set rv)
theorem s_asg1 {n : Nat} (h : E1 K T P B te δ d) (s : SS K T P B W0 H W H1 δ σ) (k : ∀ v W' H2, Vw K T W H1 W' H2 → SS K T P B W0 H W' H2 (δ.set n (.d d)) (σ.set n (some v)) → D0.nx (σ.set n (some v)) H2) : tAsg te (gName n) D0 σ H1 :=
  s_asg h s fun d' v W' H2 hd z ss => k v W' H2 z (by rw [← hd]; exact ss)
theorem s_asgL {n : Nat} {A : List D → Prop} (h : El K T P B te δ A) (s : SS K T P B W0 H W H1 δ σ) (k : ∀ ds p W' H2, A ds → Vv K T W H1 W' H2 → SS K T P B W0 H W' H2 (δ.set n (.own p)) (σ.set n (some (.ref p))) → Ow K W' H H2 p ds → H1 p = none → D0.nx (σ.set n (some (.ref p))) H2) : tAsg te (gName n) D0 σ H1 :=
  h σ W s.r H1 s.y.to _ fun ds xs p W' H2 hd z n1 n2 hl g rl => k ds p W' H2 hd z ⟨s.y.trans z, (s.r.mono z.up).setO⟩ ⟨n1, s.y.ac.has p n2, xs, hl, rl, g⟩ n2
theorem s_tgt {g : TG} (h : E K T P B te δ A) (s : SS K T P B W0 H W H1 δ σ) {δ' : D → List Sl} {vs : List Nat} (hg : ∀ d, A d → Tg K T P B g d vs δ (δ' d)) (k : ∀ d σ' W' H2, A d → Vw K T W H1 W' H2 → SS K T P B W0 H W' H2 (δ' d) σ' → D0.nx σ' H2) : tAsg te g D0 σ H1 :=
  h σ W s.r H1 s.y.to _ fun d v W' H2 hd z rv => hg d hd v W' H2 _ σ (s.r.mono z.up) z.to rv fun σ' R' _ _ => k d σ' W' H2 hd z ⟨s.y.trans z.vv, R'⟩
theorem s_drop (h : E K T P B te δ A) (s : SS K T P B W0 H W H1 δ σ) (k : ∀ W' H2, Vw K T W H1 W' H2 → SS K T P B W0 H W' H2 δ σ → D0.nx σ H2) : tDrop te D0 σ H1 :=
  h σ W s.r H1 s.y.to _ fun d v W' H2 hd z rv => k W' H2 z (s.step z.vv)
theorem s_if {V : Hp} {C : Bool → Prop} {δ' : List Sl} (h : Et K T P B t δ' C) (R : Rs K T P B V δ' σ) (e : Ex K T V H1) (s : SS K T P B W0 H W H1 δ σ) (h1 : C true → ∀ H2, Ex K T H1 H2 → SS K T P B W0 H W H2 δ σ → tu D0 σ H2) (h2 : C false → ∀ H2, Ex K T H1 H2 → SS K T P B W0 H W H2 δ σ → tw D0 σ H2) : tIfS t tu tw D0 σ H1 :=
  h σ V R H1 e _ fun b W' H2 hb z => by
    cases b with
    | true => exact h1 hb H2 z.ac (s.stay z.ac)
    | false => exact h2 hb H2 z.ac (s.stay z.ac)
theorem s_if1 (h : Et1 K T P B t δ k) (s : SS K T P B W0 H W H1 δ σ) (h1 : k = true → ∀ H2, Ex K T H1 H2 → SS K T P B W0 H W H2 δ σ → tu D0 σ H2) (h2 : k = false → ∀ H2, Ex K T H1 H2 → SS K T P B W0 H W H2 δ σ → tw D0 σ H2) : tIfS t tu tw D0 σ H1 :=
  s_if h s.r s.y.to s (fun e => h1 e.symm) fun e => h2 e.symm
theorem s_ret (h : E K T P B te δ A) (s : SS K T P B W0 H W H1 δ σ) (e : Ex K T W0 H) (k : ∀ d v W' H2, A d → Vw K T W0 H W' H2 → Rp K W' d v → D0.rt v H2) : tRet te D0 σ H1 :=
  h σ W s.r H1 s.y.to _ fun d v W' H2 hd z rv => by
    obtain ⟨z', e'⟩ := (s.y.step z).fin e
    exact k d v _ H2 hd z' (ex_rp e' _ _ rv)
theorem s_ret1 (h : E1 K T P B te δ d) (s : SS K T P B W0 H W H1 δ σ) (e : Ex K T W0 H) (k : ∀ v W' H2, Vw K T W0 H W' H2 → Rp K W' d v → D0.rt v H2) : tRet te D0 σ H1 :=
  s_ret h s e fun d v W' H2 hd z rv => k v W' H2 z (by rw [← hd]; exact rv)
/-- the end of a def: None -/
theorem s_end (s : SS K T P B W0 H W H1 δ σ) (e : Ex K T W0 H) {Q : VK} (k : ∀ v W' H2, Vw K T W0 H W' H2 → Rp K W' .non v → Q v H2) : Q .non H1 := by
  obtain ⟨z', e'⟩ := s.y.fin e
  exact k .non _ H1 z' rp_n
/-- own.append(x) -/
theorem s_app {n : Nat} {p : Addr} {ds : List D} (hn : δ[n]? = some (.own p)) (o : Ow K W H H1 p ds) (h : E K T P B te δ A) (s : SS K T P B W0 H W H1 δ σ) (hz : ds.length < 100000) (hr : ∀ d, A d → rowD (ds ++ [d]) = false)
    (k : ∀ d W' H2, A d → Vw K T W H1 W' H2 → ∀ xs, SS K T P B W0 H W' (upd H2 p (.lst xs)) δ σ → Ow K W' H (upd H2 p (.lst xs)) p (ds ++ [d]) → D0.nx σ (upd H2 p (.lst xs))) :
    tDrop (tBM K "list" rAppend (tVar n) (tCons te tNil)) D0 σ H1 := by
  obtain ⟨x, hx, rfl⟩ := rps_get s.r.s hn
  obtain ⟨hw, hh, xs, h1, rl, g⟩ := id o
  refine ⟨_, hx, Or.inl ⟨rfl, xs, SqL.of h1⟩, h σ W s.r H1 s.y.to _ fun d v W' H2 hd z rv => ?_⟩
  obtain ⟨hw2, _, ys, h2, rl2, g2⟩ := o.step z.vv
  have e2 := z.ac.keep _ _ h1 g
  rw [h2] at e2
  cases e2
  have ra := rpl_app (m := [d]) (ys := [v]) rl2 ⟨rv, True.intro⟩
  have nr := rowish_of ra (hr d hd)
  have y2 := (s.y.step z)
  exact ⟨p, xs, v, rfl, rfl, h2, by rw [rpl_len rl2]; exact Nat.lt_of_lt_of_le hz (by decide), k d W' H2 hd z _ ⟨y2.mut hw2 hh h2 g2, s.r.mono z.up⟩ ⟨hw2, hh, _, upd_same, ra, nr⟩⟩
/-- own.extend(l) -/
theorem s_ext {n : Nat} {p : Addr} {ds ms : List D} (hn : δ[n]? = some (.own p)) (o : Ow K W H H1 p ds) (h : E1 K T P B te δ (.lst ms)) (s : SS K T P B W0 H W H1 δ σ) (hz : ds.length + ms.length ≤ 100000) (hr : rowD (ds ++ ms) = false)
    (k : ∀ W' H2, Vw K T W H1 W' H2 → ∀ xs, SS K T P B W0 H W' (upd H2 p (.lst xs)) δ σ → Ow K W' H (upd H2 p (.lst xs)) p (ds ++ ms) → D0.nx σ (upd H2 p (.lst xs))) :
    tDrop (tBM K "list" rExtend (tVar n) (tCons te tNil)) D0 σ H1 := by
  obtain ⟨x, hx, rfl⟩ := rps_get s.r.s hn
  obtain ⟨hw, hh, xs, h1, rl, g⟩ := id o
  refine ⟨_, hx, Or.inl ⟨rfl, xs, SqL.of h1⟩, h σ W s.r H1 s.y.to _ fun d v W' H2 hd z rv => ?_⟩
  subst hd
  obtain ⟨b, zs, rfl, hb, gb, rb⟩ := rv
  obtain ⟨hw2, _, ys, h2, rl2, g2⟩ := o.step z.vv
  have e2 := z.ac.keep _ _ h1 g
  rw [h2] at e2
  cases e2
  have ra := rpl_app rl2 rb
  have nr := rowish_of ra hr
  have y2 := (s.y.step z)
  exact ⟨p, b, xs, zs, rfl, rfl, h2, z.to.keep _ _ hb gb, by rw [rpl_len rl2, rpl_len rb]; exact Nat.le_trans hz (by decide), k W' H2 z _ ⟨y2.mut hw2 hh h2 g2, s.r.mono z.up⟩ ⟨hw2, hh, _, upd_same, ra, nr⟩⟩
/-- own[i] = x -/
theorem s_setL {n : Nat} {p : Addr} {ds : List D} {j : Nat} (hn : δ[n]? = some (.own p)) (o : Ow K W H H1 p ds) (h : E K T P B te δ A) (hi : E1 K T P B tc δ (.int (j : Int))) (s : SS K T P B W0 H W H1 δ σ) (hj : j < ds.length) (hr : ∀ d, A d → rowD (ds.set j d) = false)
    (k : ∀ d W' H2, A d → Vw K T W H1 W' H2 → ∀ xs, SS K T P B W0 H W' (upd H2 p (.lst xs)) δ σ → Ow K W' H (upd H2 p (.lst xs)) p (ds.set j d) → D0.nx σ (upd H2 p (.lst xs))) :
    tAsg te (gSub (tVar n) tc rSetL) D0 σ H1 := by
  obtain ⟨x, hx, rfl⟩ := rps_get s.r.s hn
  refine h σ W s.r H1 s.y.to _ fun d v W' H2 hd z rv => ⟨_, hx, ?_⟩
  refine hi σ W' (s.r.mono z.up) H2 z.to _ fun d' w W3 H3 hd' z3 rw' => ?_
  subst hd'
  cases (show w = .int (j : Int) from rw')
  obtain ⟨hw, hh, xs, h1, rl, g⟩ := (o.step z.vv).step z3.vv
  have len := rpl_len rl
  have rs' := rpl_set j rl (ex_rp z3.up _ _ rv)
  have zz := z.trans z3
  refine ⟨p, xs, j, j, rfl, rfl, h1, ?_, k d W3 H3 hd zz _ ⟨(s.y.step zz).mut hw hh h1 g, s.r.mono zz.up⟩ ⟨hw, hh, _, upd_same, rs', rowish_of rs' (hr d hd)⟩⟩
  unfold ixN
  rw [if_pos (by omega), if_pos (by omega)]
  simp
/-! ### loops -/
theorem s_for {g : TG} (hs : Io K T P B wi δ Z) (s : SS K T P B W0 H W H1 δ σ)
    (k : ∀ n el W2 H2, Z n el → Vw K T W H1 W2 H2 → SS K T P B W0 H W2 H2 δ σ → ∃ Pv : Nat → L2.St → Hp → Hp → Prop, Pv 0 σ W2 H2 ∧ (∀ i σ' W' H', i ≤ n → Pv i σ' W' H' → Ex K T W2 W' ∧ ∃ δ0, SS K T P B W0 H W' H' δ0 σ') ∧
      (∀ i σ' W' H', i < n → Pv i σ' W' H' → ∃ δ0 δ1 vs, SS K T P B W0 H W' H' δ0 σ' ∧ Tg K T P B g (el i) vs δ0 δ1 ∧
        ∀ σ2 W5 H5, Vw K T W' H' W5 H5 → SS K T P B W0 H W5 H5 δ1 σ2 → tu { D0 with nx := fun σ3 H6 => ∃ W6, Pv (i + 1) σ3 W6 H6, ct := fun σ3 H6 => ∃ W6, Pv (i + 1) σ3 W6 H6, bk := D0.nx } σ2 H5) ∧
      ∀ σ' W' H', Pv n σ' W' H' → D0.nx σ' H') : tFor wi g tu D0 σ H1 := hs σ W s.r H1 s.y.to _ fun J W2 H2 n el hZ z2 S => by
  obtain ⟨Pv, h0, hv, ht, he⟩ := k n el W2 H2 hZ z2 (s.step z2.vv)
  refine ⟨fun i m σ' H' => m + i = n ∧ ∃ W', Pv i σ' W' H', ⟨n, Nat.add_zero n, W2, h0⟩, ?_⟩
  rintro i m σ' H' ⟨hm, W', hp⟩
  obtain ⟨e1, δ9, s9⟩ := hv i σ' W' H' (by omega) hp
  by_cases hi : i < n
  · refine .inr ⟨S.go i H' hi (e1.trans s9.y.to), fun σ3 H6 => ∃ W6, Pv (i + 1) σ3 W6 H6, fun σ3 H6 h => ⟨m - 1, by omega, by omega, h⟩, fun x H4 hy => ?_⟩
    obtain ⟨δ0, δ1, vs, s0, tg, kk⟩ := ht i σ' W' H' hi hp
    obtain ⟨W5, z5, r5⟩ := S.yld i W' H' x H4 hi e1 s9.y.to hy
    exact tg x W5 H4 _ σ' (s0.r.mono z5.up) z5.to r5 fun σ2 R2 _ _ => kk σ2 W5 H4 z5 ⟨s0.y.step z5, R2⟩
  · have e4 : i = n := by omega
    subst e4
    exact .inl ⟨S.stop H' (e1.trans s9.y.to), he σ' W' H' hp⟩
end
end K11
/-! K11G: the text by places; what the walk asks of what the top has written. -/
namespace K11
open PySem PySem.Spec PyProof.Rows
open L2
def topS (i : Nat) : Stmt := PySem.Challenge.pw_driftstore_k11_whole_texts.main.body.getD i (.Pass ⟨0, 0, 0, 0⟩)
/-- a def of the text -/
structure Dfn (K : PySem.W.Frag) (mg : Str → Option Value) (x : Str) (i : Nat) (ps : List Str) (f : Addr) (fd : FuncData) : Prop where
  ex : ∃ (oc : Value) (od : Option Addr) (dV kV doc pm : Value) (an : Option Addr) (cdv ct : Value) (osl : Array (Option Value)),
    fd = PySem.W.fnOf x x (defArgs (topS i)) (defBody (topS i)) (defScope (topS i)) dV kV doc pm an cdv ct ∧ K.lookup f = some ⟨oc, od, .func fd, osl⟩ ∧ PySem.W.codeIn K cdv x = true
  kp : PySem.W.keepIn K (.ref f) = true
  mg : mg x = some (.ref f)
  b : Binds K fd ps []
section
variable {P : Program} {w : World} {K : PySem.W.Frag} {mg : Str → Option Value} {base : Heap}
theorem Dfn.ok {x : Str} {i : Nat} {f : Addr} {fd : FuncData} {N ps : List Str} {k : Nat} {sp : Sp} (F : Dfn K mg x i ps f fd) (S : FnScope N ps (defScope (topS i))) (len : ∀ vs H Q E, sp vs H Q E → vs.length = ps.length)
    (hbody : ∀ (cdv : Value) (A : Around) (outer : List Env) (s : Shared) (H : Hp) (vs : List V) (Q : VK) (E : XK), Room k (A.deeper (envOfC x (defScope (topS i)) s.heap.objs.size f cdv)) → sp vs H Q E →
      ∃ t, PSs (cxOf CX0 P w K mg base N x (defScope (topS i)) f cdv A outer s H E).nox (defBody (topS i)) t ∧ t { nx := fun _ H' => Q .non H', rt := Q } (L2.start N vs) H) : FnOk P w K mg base CX0 (k + 1) f fd ps sp := by
  obtain ⟨oc, od, dV, kV, doc, pm, an, cdv, ct, osl, rfl, lk, hcd⟩ := F.ex
  refine fn_of lk hcd S len fun A outer s H vs Q E hr hsp => ?_
  obtain ⟨t, h, q⟩ := hbody cdv A outer s H vs Q E hr hsp
  exact ⟨t, h.nox, q⟩
theorem Dfn.okX {x : Str} {i : Nat} {f : Addr} {fd : FuncData} {N ps : List Str} {k : Nat} {sp : Sp} (F : Dfn K mg x i ps f fd) (S : FnScope N ps (defScope (topS i))) (len : ∀ vs H Q E, sp vs H Q E → vs.length = ps.length)
    (hbody : ∀ (cdv : Value) (A : Around) (outer : List Env) (s : Shared) (H : Hp) (vs : List V) (Q : VK) (E : XK), Room k (A.deeper (envOfC x (defScope (topS i)) s.heap.objs.size f cdv)) → sp vs H Q E →
      ∃ t, PSs (cxOf (L2.CX P w) P w K mg base N x (defScope (topS i)) f cdv A outer s H E) (defBody (topS i)) t ∧ t { nx := fun _ H' => Q .non H', rt := Q } (L2.start N vs) H) : FnOk P w K mg base (L2.CX P w) (k + 1) f fd ps sp := by
  obtain ⟨oc, od, dV, kV, doc, pm, an, cdv, ct, osl, rfl, lk, hcd⟩ := F.ex
  exact fn_of lk hcd S len fun A outer s H vs Q E hr hsp => hbody cdv A outer s H vs Q E hr hsp
end
/-- what else the top has written -/
structure Tx (K : PySem.W.Frag) (mg : Str → Option Value) : Prop where
  b_len : mg "len" = none
  b_range : mg "range" = none
  b_isinstance : mg "isinstance" = none
  b_int : mg "int" = none
  b_str : mg "str" = none
  b_bool : mg "bool" = none
  b_tuple : mg "tuple" = none
  b_list : mg "list" = none
  b_sorted : mg "sorted" = none
  b_min : mg "min" = none
  b_max : mg "max" = none
  b_zip : mg "zip" = none
  b_enumerate : mg "enumerate" = none
  b_all : mg "all" = none
/-- the frame's start, all known -/
theorem ss_start {K : PySem.W.Frag} {T : List (Addr × Str)} {P : List Addr} {W H : Hp} {ds : List D} {vs : List V} {N : List Str} (e : Ex K T W H) (r : RpL K W ds vs) (g : Gd T P W) :
    SS K T P W W H W H (ds.map .d ++ List.replicate (N.length - ds.length) .no) (L2.start N vs) := ⟨Vv.start e, rps_start r, g, Ex.refl _⟩
theorem spF_len {K : PySem.W.Frag} {T : List (Addr × Str)} {P : List Addr} {ι : Type} {args : ι → List D} {pre : ι → Prop} {post : ι → D → Prop} {n : Nat} (h : ∀ i, (args i).length = n) : ∀ vs H Q E, spF K T P args pre post vs H Q E → vs.length = n := by
  rintro vs H Q E ⟨i, W, _, r, _⟩
  rw [rpl_len r, h]
theorem spX_len {K : PySem.W.Frag} {T : List (Addr × Str)} {P : List Addr} {C : Addr} {ι : Type} {args : ι → List D} {pre : ι → Prop} {post : ι → D → Prop} {err : ι → Int → Int → Prop} {n : Nat} (h : ∀ i, (args i).length = n) : ∀ vs H Q E, spX K T P C args pre post err vs H Q E → vs.length = n := by
  rintro vs H Q E ⟨i, W, _, r, _⟩
  rw [rpl_len r, h]
end K11
/-! K11R: rules of one's own: enumerate of a tuple, zip of a list and a tuple. -/
namespace K11
open PySem PySem.Spec PyProof.Rows
open L2
/-! ### enumerate(tuple) -/
def IteT (K : PySem.W.Frag) (a : Addr) : It :=
  ⟨fun i H => ∃ (xs : List V) (x : V), SqT K H a xs ∧ xs[i]? = some x, fun i H v H' => ∃ z x, v = .ref z ∧ H z = none ∧ H' = upd H z (.tup [.int (i : Nat), x]) ∧ ∀ xs, SqT K H a xs → xs[i]? = some x, fun i H => ∃ xs : List V, SqT K H a xs ∧ xs.length = i⟩
theorem turn_enumT {P : Program} {w : World} {K : PySem.W.Frag} {elts : List Expr} {kk : Nat} {tpos : Pos} (a e it : Addr) (h1 : a ≠ it) (h2 : e ≠ a) :
    Turn P w K (.Tuple elts kk tpos) (IteT K a) [e, it] e (fun i h => (∃ old, IsEnum h e it ((i : Nat) : Int) old) ∧ h.IsTupleIter it a i ∧ e ≠ it) where
  mem := List.mem_cons_self ..
  obj := fun i h st b hb => by
    obtain ⟨⟨old, he⟩, ⟨o, ho, hc, hd⟩, _⟩ := st
    rcases List.mem_cons.mp hb with z | hb
    · rw [z]
      exact ⟨_, he, fun v q => nomatch q⟩
    · rcases List.mem_cons.mp hb with z | hb
      · rw [z]
        exact ⟨o, ho, fun v q => by rw [hd] at q; cases q⟩
      · cases hb
  keep := fun i h h' st k => by
    obtain ⟨⟨old, he⟩, hi, hne⟩ := st
    exact ⟨⟨old, k e (List.mem_cons_self ..) _ he⟩, hi.at fun o q => k it (List.mem_cons_of_mem _ (List.mem_cons_self ..)) o q, hne⟩
  item := by
    intro X hP hw hK hc i pins s σ H E I hf st hg
    subst hP hw hK
    obtain ⟨⟨old, he⟩, hit, hne⟩ := st
    obtain ⟨xs, x, hq, hx⟩ := hg
    obtain ⟨its, rv, p, hz⟩ := I.tuple hq
    obtain ⟨u0, hu0, ru0⟩ := rv.get hx
    have hel : e < s.heap.objs.size := Heap.lt_size he
    have hil : it < s.heap.objs.size := by obtain ⟨_, q, _⟩ := hit; exact Heap.lt_size q
    have hlt : i < its.toArray.size := by
      rw [List.size_toArray]
      exact (List.getElem?_eq_some_iff.mp hu0).1
    refine wpAny_pyNext_enum_itemD (Draws.tuple (show X.A.in1.handled = none from I.ok.hd hc) it a h1 its.toArray) he ⟨hit, p⟩ hlt hne (fun hm => ?_) fun u h' tk hu ho st' hT hsz hk => ?_
    · rcases List.mem_cons.mp hm with z | hm
      · exact hne z
      · rcases List.mem_cons.mp hm with z | hm
        · exact h2 z
        · cases hm
    · obtain ⟨hit', _⟩ := st'
      have eu : u = u0 := by
        have k : its.toArray[i]? = some u := hu
        rw [List.getElem?_toArray, hu0] at k
        exact (Option.some.inj k).symm
      subst eu
      refine ⟨_, rfl, wpAny_letOwnedTupleGo_enum (s := { s with heap := h', toks := tk + 1 }) ho fun h'' he' sb => ?_⟩
      have hT2 := (sb.2 _ (Nat.ne_of_gt hel)).trans hT
      have new : ObjOk X.prog X.w (upd H s.heap.objs.size (.tup [.int (i : Nat), x])) h'' s.heap.objs.size (.tup [.int (i : Nat), x]) :=
        ⟨by show 2 ≤ sizeLine; decide, [.int i tk, u], .cons ⟨_, rfl⟩ (.cons ru0 .nil), ⟨_, hT2, rfl, _, rfl⟩⟩
      have ne1 : ∀ b, b ∉ [e, it] → b ≠ e ∧ b ≠ it := fun b hb => ⟨fun z => hb (z ▸ List.mem_cons_self ..), fun z => hb (z ▸ List.mem_cons_of_mem _ (List.mem_cons_self ..))⟩
      have I1 : Inv X pins σ (upd H s.heap.objs.size (.tup [.int (i : Nat), x])) { s with heap := h'', toks := tk + 1 } :=
        I.turnedNew (ch := [e, it]) (fun b ob hb q => (sb.2 b (ne1 b hb).1).trans (hk b ob (ne1 b hb).1 (ne1 b hb).2 q)) hf (Nat.le_refl _) new
      refine ⟨.ref s.heap.objs.size, _, I1, rfl, ⟨_, x, rfl, I.hok.fresh (Nat.le_refl _), rfl, fun ys hy => by rw [I.tuple_inj hy hq]; exact hx⟩, ⟨⟨u, ?_⟩, hit'.at fun o q => (sb.2 it (Ne.symm hne)).trans q, hne⟩, fun b hb => ?_⟩
      · have e1 : ((i + 1 : Nat) : Int) = (i : Int) + 1 := by omega
        rw [e1]
        exact he'
      · have hb' : b < s.heap.objs.size := by
          rcases List.mem_cons.mp hb with z | hb
          · rw [z]; exact hel
          · rcases List.mem_cons.mp hb with z | hb
            · rw [z]; exact hil
            · cases hb
        rw [upd_ne (Nat.ne_of_lt hb')]
        exact (hf b hb).1
  done := by
    intro X hP hw hK hc i pins s σ H E I hf st hg
    subst hP hw hK
    obtain ⟨⟨old, he⟩, hit, hne⟩ := st
    obtain ⟨xs, hq, hx⟩ := hg
    obtain ⟨its, rv, p, hz⟩ := I.tuple hq
    obtain ⟨f0, f1, f2, f3, f4, f5⟩ := hf it (List.mem_cons_of_mem _ (List.mem_cons_self ..))
    have hl : i = its.toArray.size := by
      rw [List.size_toArray, ← rv.length]
      exact hx.symm
    refine wpAny_pyNext_enum_endD (Draws.tuple (show X.A.in1.handled = none from I.ok.hd hc) it a h1 its.toArray) he ⟨?_, p⟩ fun h' eb => ⟨rfl, I.turned (t' := s.toks) (fun b o hb q => eb b o hb q) f0 f1 f3 f4 f5⟩
    rw [← hl]
    exact hit
  self := fun A i s Q E st h => let ⟨⟨_, he⟩, _⟩ := st; wpAny_pyIter_enum he h
theorem one_arg {x : V} {us : List Value} (r : Vals [x] us) : ∃ u, us = [u] ∧ RelV x u := vals1 r
def iEnumT (K : PySem.W.Frag) (ta : TA) : TI := fun σ H R => ta σ H fun vs H1 => ∃ a xs, vs = [.ref a] ∧ SqT K H1 a xs ∧ R (IteT K a) H1
theorem meets_enumT {v : Value} {o : Obj} {H : Heap → Prop} (B : Begins v o H) :
    Meets (Builtin.«enumerate.__new__» ⟨[.type "enumerate", v], []⟩) (fun _ R s => H s.heap ∧
      R (.ok (.ret (.ref (s.heap.push o).objs.size))) { s with heap := (s.heap.push o).push { cls := .type "enumerate", data := .fields #[.none, .bool false, .ref s.heap.objs.size, rawInt 0, .none, .none] } }) :=
  .of_wp fun prog w A R s h => by
    obtain ⟨hp, g, d, tk, os⟩ := s
    obtain ⟨h1, h⟩ := h
    have hsub := sub_enumerate
    have q1 : ∀ {A' : Around} {E : Value → Shared → Prop} {Q : Value → Shared → Prop}, Q (.ref hp.objs.size) ⟨(hp.push o), g, d, tk, os⟩ → wpAny (model prog w) A' (pyIter v) Q E ⟨hp, g, d, tk, os⟩ :=
      fun q => B.iter prog w _ _ ⟨hp, g, d, tk, os⟩ _ h1 q
    wp_walk
    refine wpAny_stack_any fun st => wpAny_pure ?_
    split
    · rename_i c _ _ _ _ _
      cases (c == Value.type "enumerate")
      · wp_walk using q1
        exact ⟨_, rfl, h⟩
      · wp_walk using q1
        exact ⟨_, rfl, h⟩
    · wp_walk using q1
      exact ⟨_, rfl, h⟩
theorem call_enumT {prog : Program} {w : World} {A : Around} {E : Value → Shared → Prop} {s : Shared} {t : Addr} {items : Array Value} {Q : Value → Shared → Prop} (ht : s.heap.IsTuple t items)
    (h : ∀ h', IsEnum h' (s.heap.objs.size + 1) s.heap.objs.size 0 .none → h'.IsTupleIter s.heap.objs.size t 0 → h'.objs.size = s.heap.objs.size + 2 →
      (∀ b o, s.heap.get? b = some o → h'.get? b = some o) → Q (.ref (s.heap.objs.size + 1)) { s with heap := h' }) :
    wpAny (model prog w) A (call (.type "enumerate") [.ref t]) Q E s := by
  refine callType_new F.called_enumerate (by decide) (F.typeCall_enumerate_1 _) (F.newCall_enumerate_1 _) (fun obj => F.args_object_init_2 obj _) F.entry_enumerate_new (meets_enumT (begins_tuple t items)) ⟨ht, ?_⟩
  have hz : (s.heap.push { cls := .type "tuple_iterator", data := .fields #[.ref t, .int 0 0] }).objs.size = s.heap.objs.size + 1 := Heap.size_push ..
  show _ ∧ _
  rw [hz]
  have he : IsEnum ((s.heap.push { cls := .type "tuple_iterator", data := .fields #[.ref t, .int 0 0] }).push { cls := .type "enumerate", data := .fields #[.none, .bool false, .ref s.heap.objs.size, rawInt 0, .none, .none] }) (s.heap.objs.size + 1) s.heap.objs.size 0 .none := by
    have q := Heap.get?_push_size (s.heap.push { cls := .type "tuple_iterator", data := .fields #[.ref t, .int 0 0] }) (o := { cls := .type "enumerate", data := .fields #[.none, .bool false, .ref s.heap.objs.size, rawInt 0, .none, .none] }) rfl
    rw [hz] at q
    exact q
  exact ⟨⟨_, he, rfl⟩, h _ he ⟨_, Heap.get?_push_of_some _ (Heap.get?_push_size _ rfl), rfl, rfl⟩ (by rw [Heap.size_push, hz]) fun b o x => Heap.get?_push_of_some _ (Heap.get?_push_of_some _ x)⟩
theorem pi_enumT {X : Cx} {e : Expr} {ta : TA} {p pos tpos : Pos} {elts : List Expr} {kk : Nat} (hg : Gl X "enumerate") (hm : X.mg "enumerate" = none) (ha : PA X [e] ta) (hs : starEach [e] X.env = [(false, eval e X.env)] := by rfl) :
    PI X (.Tuple elts kk tpos) (.Call (.Name "enumerate" p) [e] [] pos) (iEnumT X.K ta) := by
  refine ⟨fun pins s σ H R I h => ?_⟩
  refine Call_ (ld_blt I hg hm boot_enumerate (PyProof.Rows.callWith_type1 (thn (ha.run pos pins s σ H _ I h) fun us s1 ⟨vs, H1, I1, r1, q1⟩ => ?_) hs rfl))
  obtain ⟨a, xs, ex, hq, q⟩ := q1
  subst ex
  obtain ⟨u, rfl, r⟩ := one_arg r1
  cases r
  obtain ⟨its, rv, p', hz⟩ := I1.tuple hq
  have hal : a < s1.heap.objs.size := by obtain ⟨_, q, _⟩ := id p'; exact Heap.lt_size q
  refine call_enumT (show s1.heap.IsTuple a its.toArray from p') fun h' he hit hsz hk => wpAny_pyIter_enum he ?_
  have I2 : Inv X pins σ H1 { s1 with heap := h' } := I1.kept (t' := s1.toks) hk
  refine ⟨s1.heap.objs.size + 1, [s1.heap.objs.size + 1, s1.heap.objs.size], _, _, H1, rfl, I2, turn_enumT a (s1.heap.objs.size + 1) s1.heap.objs.size (Nat.ne_of_lt hal) (Nat.ne_of_gt (Nat.lt_succ_of_lt hal)), ⟨⟨.none, he⟩, hit, Nat.succ_ne_self _⟩, fun b hb => ?_, q⟩
  have hle : s1.heap.objs.size ≤ b := by
    rcases List.mem_cons.mp hb with z | hb
    · rw [z]; exact Nat.le_add_right _ _
    · rcases List.mem_cons.mp hb with z | hb
      · rw [z]; exact Nat.le_refl _
      · cases hb
  exact I1.fpOk hle (I1.hok.fresh hle)
/-! ### zip(list, tuple) -/
def ItzX (K : PySem.W.Frag) (a b : Addr) : It :=
  ⟨fun i H => ∃ (xs ys : List V) (x y : V), SqL K H a xs ∧ SqT K H b ys ∧ xs[i]? = some x ∧ ys[i]? = some y,
    fun i H v H' => ∃ z x y, v = .ref z ∧ H z = none ∧ H' = upd H z (.tup [x, y]) ∧ (∀ xs, SqL K H a xs → xs[i]? = some x) ∧ ∀ ys, SqT K H b ys → ys[i]? = some y,
    fun i H => ∃ xs ys : List V, SqL K H a xs ∧ SqT K H b ys ∧ xs.length = i ∧ ys.length = i⟩
theorem mem5 {α : Type} {c a1 a2 a3 a4 a5 : α} (h : c ∈ [a1, a2, a3, a4, a5]) : c = a1 ∨ c = a2 ∨ c = a3 ∨ c = a4 ∨ c = a5 := by simpa using h
theorem nmem5 {α : Type} {c a1 a2 a3 a4 a5 : α} (h : c ∉ [a1, a2, a3, a4, a5]) : c ≠ a1 ∧ c ≠ a2 ∧ c ≠ a3 ∧ c ≠ a4 ∧ c ≠ a5 := by simpa using h
theorem turn_zipX {P : Program} {w : World} {K : PySem.W.Frag} {elts : List Expr} {kk : Nat} {tpos : Pos} {a b z TI TO i1 i2 : Addr} (S : ZipSep2 z TI TO i1 i2 [i1, a] [i2, b]) (na : a ≠ i1) (nb : b ≠ i2) :
    Turn P w K (.Tuple elts kk tpos) (ItzX K a b) [z, TI, TO, i1, i2] z (fun i h => IsZip h z TI TO .none ∧ IsTupOf2 h TI (.ref i1) (.ref i2) ∧ (∃ x y, IsTupOf2 h TO x y) ∧ h.IsListIter i1 a i ∧ h.IsTupleIter i2 b i) where
  mem := List.mem_cons_self ..
  obj := fun i h st c hc => by
    obtain ⟨hz, hTI, ⟨x, y, hTO⟩, ⟨o1, e1, _, d1⟩, ⟨o2, e2, _, d2⟩⟩ := st
    rcases mem5 hc with q | q | q | q | q
    · rw [q]; exact ⟨_, hz, fun v q => nomatch q⟩
    · rw [q]; exact ⟨_, hTI, fun v q => nomatch q⟩
    · rw [q]; exact ⟨_, hTO, fun v q => nomatch q⟩
    · rw [q]; exact ⟨o1, e1, fun v q => by rw [d1] at q; cases q⟩
    · rw [q]; exact ⟨o2, e2, fun v q => by rw [d2] at q; cases q⟩
  keep := fun i h h' st k => by
    obtain ⟨hz, hTI, ⟨x, y, hTO⟩, h1, h2⟩ := st
    exact ⟨k z (by simp) _ hz, k TI (by simp) _ hTI, ⟨x, y, k TO (by simp) _ hTO⟩, h1.at fun o q => k i1 (by simp) o q, h2.at fun o q => k i2 (by simp) o q⟩
  item := by
    intro X hP hw hK hc i pins s σ H E I hf st hg
    subst hP hw hK
    obtain ⟨hz, hTI, ⟨x0, y0, hTO⟩, h1, h2⟩ := st
    obtain ⟨xs, ys, x, y, hqx, hqy, hx, hy⟩ := hg
    obtain ⟨its, rv, p, _⟩ := I.list hqx
    obtain ⟨its2, rv2, p2, _⟩ := I.tuple hqy
    obtain ⟨u0, hu, ru⟩ := rv.get hx
    obtain ⟨u1, hu2, ru2⟩ := rv2.get hy
    have hzl : z < s.heap.objs.size := Heap.lt_size hz
    have hh : X.A.in1.handled = none := I.ok.hd hc
    refine wpAny_pyNext_zipD2_item S (Draws.list hh i1 a na its.toArray) (Draws.tuple hh i2 b nb its2.toArray) hz hTI hTO ⟨h1, p.isList⟩ ⟨h2, p2⟩ (by rw [List.size_toArray]; exact (List.getElem?_eq_some_iff.mp hu).1) (by rw [List.size_toArray]; exact (List.getElem?_eq_some_iff.mp hu2).1) fun u u2 h' tk k1 k2 z' TO' st1 st2 hT hsz hk => ?_
    obtain ⟨h1', _⟩ := st1
    obtain ⟨h2', _⟩ := st2
    have eu : u = u0 := by
      have k : its.toArray[i]? = some u := k1
      rw [List.getElem?_toArray, hu] at k
      exact (Option.some.inj k).symm
    have eu2 : u2 = u1 := by
      have k : its2.toArray[i]? = some u2 := k2
      rw [List.getElem?_toArray, hu2] at k
      exact (Option.some.inj k).symm
    subst eu
    subst eu2
    refine ⟨_, rfl, wpAny_letOwnedTupleGo_zip (s := { s with heap := h', toks := tk }) z' fun h'' z'' sb => ?_⟩
    have hT2 := (sb.2 _ (Nat.ne_of_gt hzl)).trans hT
    have new : ObjOk X.prog X.w (upd H s.heap.objs.size (.tup [x, y])) h'' s.heap.objs.size (.tup [x, y]) :=
      ⟨by show 2 ≤ sizeLine; decide, [u, u2], .cons ru (.cons ru2 .nil), ⟨_, hT2, rfl, _, rfl⟩⟩
    have I1 : Inv X pins σ (upd H s.heap.objs.size (.tup [x, y])) { s with heap := h'', toks := tk } :=
      I.turnedNew (t' := tk) (ch := [z, TI, TO, i1, i2]) (fun c o hb q => by
        obtain ⟨q1, q2, q3, q4, q5⟩ := nmem5 hb
        exact (sb.2 c q1).trans (hk c o q1 q3 q4 q5 q)) hf (Nat.le_refl _) new
    refine ⟨.ref s.heap.objs.size, _, I1, rfl, ⟨_, x, y, rfl, I.hok.fresh (Nat.le_refl _), rfl, fun l hl => by rw [I.list_inj hl hqx]; exact hx, fun l hl => by rw [I.tuple_inj hl hqy]; exact hy⟩, ⟨z'', ?_, ⟨u, u2, ?_⟩, ?_, ?_⟩, fun c hcm => ?_⟩
    · exact (sb.2 _ S.TIz).trans (hk _ _ S.TIz S.TITO S.TIi1 S.TIi2 hTI)
    · exact (sb.2 _ S.TOz).trans TO'
    · exact h1'.at fun o q => (sb.2 _ S.zi1.symm).trans q
    · exact h2'.at fun o q => (sb.2 _ S.zi2.symm).trans q
    · have hlt : c < s.heap.objs.size := by
        rcases mem5 hcm with q | q | q | q | q
        · rw [q]; exact hzl
        · rw [q]; exact Heap.lt_size hTI
        · rw [q]; exact Heap.lt_size hTO
        · rw [q]; obtain ⟨_, e1, _⟩ := h1; exact Heap.lt_size e1
        · rw [q]; obtain ⟨_, e2, _⟩ := h2; exact Heap.lt_size e2
      rw [upd_ne (Nat.ne_of_lt hlt)]
      exact (hf c hcm).1
  done := by
    intro X hP hw hK hc i pins s σ H E I hf st hg
    subst hP hw hK
    obtain ⟨hz, hTI, ⟨x0, y0, hTO⟩, h1, h2⟩ := st
    obtain ⟨xs, ys, hqx, hqy, e1, e2⟩ := hg
    obtain ⟨its, rv, p, _⟩ := I.list hqx
    obtain ⟨its2, rv2, p2, _⟩ := I.tuple hqy
    have l1 : i = its.toArray.size := by rw [List.size_toArray, ← rv.length]; exact e1.symm
    have l2 : i = its2.toArray.size := by rw [List.size_toArray, ← rv2.length]; exact e2.symm
    have hh : X.A.in1.handled = none := I.ok.hd hc
    refine wpAny_pyNext_zipD2_end S (Draws.list hh i1 a na its.toArray) (Draws.tuple hh i2 b nb its2.toArray) hz hTI hTO ⟨h1, p.isList⟩ ⟨h2, p2⟩ (Nat.le_of_eq l1) (Nat.le_of_eq l2) (.inl l1) fun h' tk hk => ⟨rfl, I.turnedL (t' := tk) (ch := [z, TI, TO, i1, i2]) (fun c o hb q => ?_) hf⟩
    obtain ⟨q1, q2, q3, q4, q5⟩ := nmem5 hb
    exact hk c o q1 q3 q4 q5 q
  self := fun A i s Q E st h => wpAny_pyIter_zip st.1 h
def iZipX (K : PySem.W.Frag) (ta : TA) : TI := fun σ H R => ta σ H fun vs H1 => ∃ a b xs ys, vs = [.ref a, .ref b] ∧ SqL K H1 a xs ∧ SqT K H1 b ys ∧ R (ItzX K a b) H1
theorem two_args {x y : V} {us : List Value} (r : Vals [x, y] us) : ∃ u u', us = [u, u'] ∧ RelV x u ∧ RelV y u' := vals2 r
theorem pi_zipX {X : Cx} {e e2 : Expr} {ta : TA} {p pos tpos : Pos} {elts : List Expr} {kk : Nat} (hg : Gl X "zip") (hm : X.mg "zip" = none) (ha : PA X [e, e2] ta)
    (hs : starEach [e, e2] X.env = (false, eval e X.env) :: starEach [e2] X.env := by rfl) (hpl : (backTo pos (starEach [e2] X.env)).any (·.1) = false := by rfl) :
    PI X (.Tuple elts kk tpos) (.Call (.Name "zip" p) [e, e2] [] pos) (iZipX X.K ta) := by
  refine ⟨fun pins s σ H R I h => ?_⟩
  refine Call_ (ld_blt I hg hm PyProof.Rows.boot_zip (PyProof.Rows.callWith_type1 (thn (ha.run pos pins s σ H _ I h) fun us s1 ⟨vs, H1, I1, r1, q1⟩ => ?_) hs hpl))
  obtain ⟨a, b, xs, ys, ex, hqx, hqy, q⟩ := q1
  subst ex
  obtain ⟨u, u', rfl, r, r'⟩ := two_args r1
  cases r
  cases r'
  obtain ⟨its, rv, p1, _⟩ := I1.list hqx
  obtain ⟨its2, rv2, p2, _⟩ := I1.tuple hqy
  have hal : a < s1.heap.objs.size := p1.lt
  have hbl : b < s1.heap.objs.size := by obtain ⟨_, q, _⟩ := id p2; exact Heap.lt_size q
  refine zip_begins2 (begins_list a its.toArray) (begins_tuple b its2.toArray) p1.isList p2 fun h' hz hTI hTO h1 h2 hsz hk => wpAny_pyIter_zip hz ?_
  have I2 : Inv X pins σ H1 { s1 with heap := h' } := I1.kept (t' := s1.toks) hk
  have S := zip_sep2 (N := s1.heap.objs.size) (fp1 := [a]) (fp2 := [b]) (fun c hc => by rw [List.mem_singleton.mp hc]; exact hal) (fun c hc => by rw [List.mem_singleton.mp hc]; exact hbl)
  refine ⟨s1.heap.objs.size + 4, [s1.heap.objs.size + 4, s1.heap.objs.size + 2, s1.heap.objs.size + 3, s1.heap.objs.size, s1.heap.objs.size + 1], _, _, H1, rfl, I2, turn_zipX S (Nat.ne_of_lt hal) (Nat.ne_of_lt (Nat.lt_succ_of_lt hbl)), ⟨hz, hTI, ⟨_, _, hTO⟩, ⟨_, h1, rfl, rfl⟩, ⟨_, h2, rfl, rfl⟩⟩, fun c hcm => ?_, q⟩
  have hle : s1.heap.objs.size ≤ c := by
    rcases mem5 hcm with z | z | z | z | z
    · rw [z]; exact Nat.le_add_right _ _
    · rw [z]; exact Nat.le_add_right _ _
    · rw [z]; exact Nat.le_add_right _ _
    · rw [z]; exact Nat.le_refl _
    · rw [z]; exact Nat.le_add_right _ _
  exact I1.fpOk hle (I1.hok.fresh hle)
end K11
/-! K11S: all(e for x in ..), e any term of rules. -/
namespace K11
open PySem PySem.Spec PyProof.Rows
open L2
/-- the frame of a generator expression -/
def genCx (X : Cx) (s : Shared) (H : Hp) (cenv : Env) (A : Around) (fp : List Addr) : Cx :=
  { X with A := A, s_0 := s, H_0 := H, env := cenv, outer := X.stack, stack := cenv :: X.stack, ex := fp, fn := fun _ => false, pn := [], xe := fun _ _ => False }
theorem over_gen {A : Around} {elt tg iter : Expr} {ifs : List Expr} {scope : Scope} {pos : Pos} {it acc : Value} {env : Env} : A.over (.compLoop (.GeneratorExp elt [⟨tg, iter, ifs, 0⟩] scope pos) 0 it acc env) [] = A.deeper env := by
  first
    | rfl
    | (obtain ⟨hd, d, fr, gs, u⟩ := A; simp [Around.over, Around.deeper, marksOver, frameCount, unitsOf, envsOf, guardsOf, pushEnvs, pushGuards, Code.envs, Code.env?, Code.isFrame, Code.guards, Code.isGuard, Code.weight, Code.frames, Code.isCreation, Code.isCaller, Code.cUnits])
theorem over_genS {A : Around} {elt tg iter : Expr} {ifs : List Expr} {scope : Scope} {pos : Pos} {it acc : Value} {env : Env} : A.over (.compStart (.GeneratorExp elt [⟨tg, iter, ifs, 0⟩] scope pos) 0 it acc env) [] = A.deeper env := by
  first
    | rfl
    | (obtain ⟨hd, d, fr, gs, u⟩ := A; simp [Around.over, Around.deeper, marksOver, frameCount, unitsOf, envsOf, guardsOf, pushEnvs, pushGuards, Code.envs, Code.env?, Code.isFrame, Code.guards, Code.isGuard, Code.weight, Code.frames, Code.isCreation, Code.isCaller, Code.cUnits])
/-- the generator's names: its own, or captured ones -/
structure GnOk (N : List Str) (sc scope : Scope) (own : List (Str × Nat)) : Prop where
  blk : BlkOk N sc scope own
  co : scope.isCoroutine = false
  cell : ∀ y ∈ scope.names, y.2 ≠ .cell
  dot : scope.names.lookup (".0" : Str) = some NameKind.local
def gnC (N : List Str) (sc scope : Scope) (own : List (Str × Nat)) : Bool :=
  blkC N sc scope own && !scope.isCoroutine && scope.names.all (fun y => !decide (y.2 = .cell)) && decide (scope.names.lookup (".0" : Str) = some NameKind.local)
theorem gnOk_by {N : List Str} {sc scope : Scope} {own : List (Str × Nat)} (h : gnC N sc scope own = true) : GnOk N sc scope own := by
  unfold gnC at h
  simp only [Bool.and_eq_true, Bool.not_eq_true', List.all_eq_true, decide_eq_true_eq, decide_eq_false_iff_not] at h
  exact ⟨blkOk_by h.1.1.1, h.1.1.2, h.1.2, h.2⟩
section
variable {X : Cx} {pins : List (Addr × Obj)} {σ : L2.St} {H : Hp} {s : Shared}
theorem gen_start {scope : Scope} {own : List (Str × Nat)} {fp : List Addr} {A : Around} {code : Value} {bi : Addr} {h' : Heap} {it : Value} {g' : Array GenState} {t' : Nat} {a : Addr} {og : Obj}
    (I : Inv X pins σ H s) (ok : GnOk X.N X.env.scope scope own) (hN : X.N.Nodup) (hc : X.calm = true) (hA : A.handled = none) (hfr : A.frames = some X.stack) (hfp : ∀ b ∈ fp, FpOk X pins H b ∧ b < s.heap.objs.size) (hbi : bi = builtinsNs)
    (hn : h'.Ns s.heap.objs.size (fun y => if y = ".0" then some it else none)) (kp : ∀ b o, s.heap.get? b = some o → h'.get? b = some o) (hg : AllBare g') (ha : h'.get? a = some og) (hac : s.heap.objs.size < a) (hod : ∀ v, og.data ≠ .cell v) :
    Inv (genCx X s H (genEnv scope (cloFrom X.env.cells scope.names []) s.heap.objs.size code bi X.env) (A.deeper (genEnv scope (cloFrom X.env.cells scope.names []) s.heap.objs.size code bi X.env)) fp) [(a, og)] (wipe σ (own.map (·.2))) H { s with heap := h', gens := g', toks := t' } := by
  have hfree : ∀ y ∈ scope.names, y.2 = .free → ∃ c, X.env.cells.lookup y.1 = some c := fun y hy e => by
    rcases ok.blk.free y hy e with k | k
    · exact I.ok.has _ (.inl k)
    · exact I.ok.has _ (.inr k)
  generalize hce : genEnv scope (cloFrom X.env.cells scope.names []) s.heap.objs.size code bi X.env = cenv
  have hL : cenv.locals = s.heap.objs.size := by rw [← hce]; rfl
  have hcl : cenv.cells = cloFrom X.env.cells scope.names [] := by rw [← hce]; rfl
  have hsc : cenv.scope = scope := by rw [← hce]; rfl
  have hF : cenv.frame = some cenv.locals := by rw [← hce]; rfl
  have cm : ∀ {y c}, (cloFrom X.env.cells scope.names []).lookup y = some c → X.env.cells.lookup y = some c := fun {y c} e => by
    rcases cloFrom_mem (PySem.mem_of_lookup e) with hm | ⟨h1, h2⟩
    · cases hm
    · obtain ⟨c1, hc⟩ := hfree _ h1 rfl
      have hc : X.env.cells.lookup y = some c1 := hc
      have e2 : c = c1 := by
        rw [h2, hc] <;> rfl
      rw [e2]
      exact hc
  have clt : ∀ {y c}, X.env.cells.lookup y = some c → c < s.heap.objs.size := fun {y c} e => by
    obtain ⟨w, z⟩ := I.cell y c e
    exact z.lt
  have look : ∀ {y}, scope.names.lookup y = some .free → ∃ c, (cloFrom X.env.cells scope.names []).lookup y = some c := fun {y} hl => by
    have hy : (y, NameKind.free) ∈ scope.names := PySem.mem_of_lookup hl
    exact mem_lookup (cloFrom_has (cells := X.env.cells) (acc := []) hy)
  refine ⟨⟨I.ok.mod, ?_, ?_, ?_, ?_, fun y z c e1 e2 => ?_, fun y hy => ?_, fun y c z _ => ?_, fun _ => hA, ?_, .inr ⟨rfl, ?_⟩, fun b hb => ⟨?_, fun y c e z => ?_⟩, I.bs, Nat.le_trans I.ok.bsz I.sz, fun b o e hb => ?_, fun b hb z => ?_, I.stack, I.stkFree⟩,
    rfl, hg, Un.kept kp, ⟨fun y => if y = ".0" then some it else none, ?_, fun i y v e1 e2 e3 => ?_⟩, fun y c e => ?_, ?_, fun y c e => ?_, fun q hq => ?_, I.hok.kept kp, by rw [wipe_length]; exact I.len⟩
  · show cenv.scope.kind = _
    rw [hsc]
    exact ok.blk.kind
  · show cenv.globals = _
    rw [← hce]
    exact I.ok.glob
  · show cenv.builtins = _
    rw [← hce]
    exact hbi
  · show s.heap.objs.size ≤ cenv.locals
    rw [hL]
    exact Nat.le_refl _
  · have e1 : cenv.cells.lookup y = some c := e1
    have e2 : cenv.cells.lookup z = some c := e2
    rw [hcl] at e1 e2
    exact I.ok.inj y z c (cm e1) (cm e2)
  · show ∃ c, cenv.cells.lookup y = some c
    rw [hcl]
    have hy : cenv.scope.names.lookup y = some .cell ∨ cenv.scope.names.lookup y = some .free := hy
    rw [hsc] at hy
    rcases hy with hy | hy
    · exact absurd rfl (ok.cell _ (PySem.mem_of_lookup hy))
    · exact look hy
  · have z : false = true := z
    cases z
  · show (A.deeper cenv).frames = some (cenv :: X.stack)
    exact Around.frames_deeper hfr
  · show cenv.frame = some cenv.locals
    exact hF
  · show b ≠ cenv.locals
    rw [hL]
    exact Nat.ne_of_lt (hfp b hb).2
  · have e : cenv.cells.lookup y = some c := e
    rw [hcl] at e
    exact (hfp b hb).1.2.2.2.2.1 y c (cm e) z
  · rcases (hfp b hb).1.2.2.2.1 with z | z
    · exact I.ok.noex b o e z
    · exact absurd (Nat.lt_of_lt_of_le (Heap.lt_size e) (Nat.le_trans I.ok.bsz z)) (Nat.lt_irrefl _)
  · rcases List.mem_cons.mp (I.stkSub b z) with z | z
    · exact (hfp b hb).1.2.1 z
    · exact (hfp b hb).1.2.2.1 z
  · show h'.Ns cenv.locals _
    rw [hL]
    exact hn
  · obtain ⟨e2, hne⟩ := wipe_some e2
    have e3 : Vis cenv.scope y := e3
    rw [hsc] at e3
    have no : ∀ k, scope.names.lookup y = some k → (k = .local ∨ k = .cell) → False := fun k e hh => by
      rcases ok.blk.own _ (PySem.mem_of_lookup e) hh with e' | e'
      · obtain ⟨p, hp, hpy⟩ := List.mem_map.mp e'
        have e3 := ok.blk.ix p hp
        have hpy : p.1 = y := hpy
        rw [hpy] at e3
        exact hne (List.mem_map.mpr ⟨p, hp, nodup_ix hN e3 e1⟩)
      · exact e' (List.mem_of_getElem? e1)
    rcases e3 with k | k | k
    · exact (no _ k (.inl rfl)).elim
    · exact (no _ k (.inr rfl)).elim
    · obtain ⟨m, hm, hl⟩ := I.loc
      have hvis : Vis X.env.scope y := (ok.blk.free _ (PySem.mem_of_lookup k) rfl).elim (fun k => .inr (.inl k)) (fun k => .inr (.inr k))
      obtain ⟨w', r, q⟩ := hl i y v e1 e2 hvis
      obtain ⟨c2, h2⟩ := look k
      refine ⟨w', r, .inr ⟨.inr (show cenv.scope.names.lookup y = some .free by rw [hsc]; exact k), c2, (show cenv.cells.lookup y = some c2 by rw [hcl]; exact h2), ?_⟩⟩
      have c1 := cm h2
      rcases q with ⟨k', _⟩ | ⟨_, c3, e', z⟩
      · have k' : X.env.scope.names.lookup y = some .local := k'
        rcases ok.blk.free _ (PySem.mem_of_lookup k) rfl with k2 | k2 <;> rw [show X.env.scope.names.lookup y = _ from k2] at k' <;> cases k'
      · rw [c1] at e'
        cases e'
        exact z.keeps kp
  · have e : cenv.cells.lookup y = some c := e
    rw [hcl] at e
    obtain ⟨w', z⟩ := I.cell y c (cm e)
    exact ⟨w', z.keeps kp⟩
  · show H cenv.locals = none
    rw [hL]
    exact I.hok.fresh (Nat.le_refl _)
  · have e : cenv.cells.lookup y = some c := e
    rw [hcl] at e
    exact I.freeC y c (cm e)
  · have hq : q ∈ ([] : List (Addr × Obj)) ++ [(a, og)] := hq
    rw [List.nil_append, List.mem_singleton] at hq
    subst hq
    refine ⟨ha, I.hok.fresh (Nat.le_of_lt hac), ?_, fun z => ?_, hod⟩
    · show a ≠ cenv.locals
      rw [hL]
      exact Nat.ne_of_gt hac
    · have z : a ∈ frs X.stack := z
      obtain ⟨_, o, e⟩ := I.stack.mem z
      exact Nat.lt_irrefl _ (Nat.lt_trans hac (Heap.lt_size e.1))
end
/-! ### the walk through the generator -/
section
variable {Z : Cx} {pins : List (Addr × Obj)} {elt tg iter : Expr} {scope : Scope} {pos : Pos} {it : Addr} {J : It} {fp : List Addr} {tn : Nat → Heap → Prop} {a : Addr} {og : Obj} {σw : L2.St} {vs : List Nat} {g : TG} {te : TE} {A : Around} {cenv : Env} {n : Nat} {W : Nat → Hp → Prop} {Fq : Hp → Prop}
/-- at turn i -/
def GI (Z : Cx) (pn : List (Addr × Obj)) (σw : L2.St) (fp : List Addr) (tn : Nat → Heap → Prop) (W : Nat → Hp → Prop) (i : Nat) (s : Shared) : Prop :=
  ∃ H, Inv Z pn σw H s ∧ tn i s.heap ∧ (∀ b ∈ fp, H b = none) ∧ W i H
def gR (Z : Cx) (pn : List (Addr × Obj)) (σw : L2.St) (W : Nat → Hp → Prop) (n : Nat) : Nat → Shared → Shared → Prop := fun m _ s1 => m = 0 ∧ ∃ H', Inv Z pn σw H' s1 ∧ W n H'
def gY (Z : Cx) (pn : List (Addr × Obj)) (σw : L2.St) (fp : List Addr) (tn : Nat → Heap → Prop) (W : Nat → Hp → Prop) (Fq : Hp → Prop) (n : Nat) : Protocol := fun m _ v s kap =>
  ∃ i b H', m + (i + 1) = n ∧ v = .bool b ∧ Inv Z pn σw H' s ∧ (b = false → Fq H') ∧ (b = true → GI Z pn σw fp tn W (i + 1) s ∧ ∀ s'' : Shared, s''.heap = s.heap → s''.os = s.os → AllBare s''.gens → kap (.send .none) s'')
theorem inv_heapEq {X : Cx} {pn : List (Addr × Obj)} {σ : L2.St} {H : Hp} {s s' : Shared} (I : Inv X pn σ H s) (e : s'.heap = s.heap) (o : s'.os = s.os) (b : AllBare s'.gens) : Inv X pn σ H s' := by
  obtain ⟨h', g', d', t', o'⟩ := s'
  obtain ⟨h, g, d, t, o0⟩ := s
  cases (show h' = h from e)
  cases (show o' = o0 from o)
  exact ⟨I.ok, I.os, b, I.base, I.loc, I.cell, I.free, I.freeC, I.pin, I.hok, I.len⟩
theorem GI.heapEq {pn : List (Addr × Obj)} {i : Nat} {s s' : Shared} (x : GI Z pn σw fp tn W i s) (e : s'.heap = s.heap) (o : s'.os = s.os) (b : AllBare s'.gens) : GI Z pn σw fp tn W i s' := by
  obtain ⟨H, I, st, nf, w⟩ := x
  exact ⟨H, inv_heapEq I e o b, by rw [e]; exact st, nf, w⟩
theorem seg_all {elts : Unit} (hh : A.handled = none) (hZ : Z.A = A.deeper cenv) (hE : Z.env = cenv) (hex : Z.ex = fp) (hpn : Z.pn = []) (hxe : Z.xe = fun _ _ => False) (hc : Z.calm = true) (hco : cenv.scope.isCoroutine = false)
    (T : Turn Z.prog Z.w Z.K tg J fp it tn) (pg : PG Z tg g) (pe : PE Z elt te) (na : a ∉ fp)
    (hn : ∀ H, W n H → J.stop n H) (step : ∀ i H, i < n → W i H → J.go i H ∧ ∀ x H', J.yld i H x H' → g x σw H' fun σ2 H3 => wipe σ2 vs = wipe σw vs ∧ te σ2 H3 fun y H4 => ∃ b, y = .bl b ∧ (b = true → W (i + 1) H4) ∧ (b = false → Fq H4))
    (hσ : wipe σw vs = σw) :
    ∀ (k i : Nat) (s₀ s : Shared), n - i = k → i ≤ n → GI Z [(a, og)] σw fp tn W i s →
      Seg (model Z.prog Z.w) A (fun m s₀ r s₁ => r = .ok .next ∧ gR Z [(a, og)] σw W n m s₀ s₁) (gY Z [(a, og)] σw fp tn W Fq n) k s₀
        (.compLoop (.GeneratorExp elt [⟨tg, iter, [], 0⟩] scope pos) 0 (.ref it) .none cenv)
        ((model Z.prog Z.w).den (.compLoop (.GeneratorExp elt [⟨tg, iter, [], 0⟩] scope pos) 0 (.ref it) .none cenv)) [] s := by
  have stat : ∀ {σ' : L2.St} {H' : Hp} {s' : Shared}, Inv Z [(a, og)] σ' H' s' → (∀ b ∈ fp, H' b = none) → ∀ b ∈ fp, FpOk Z [(a, og)] H' b := fun {σ' H' s'} I' hn b hb => by
    have hb' : b ∈ Z.ex := by rw [hex]; exact hb
    refine ⟨hn b hb, (I'.ok.exf b hb').1, I'.ok.exfs b hb', .inl hb', fun x c e => (I'.ok.exf b hb').2 x c e, fun p hp => ?_⟩
    rw [hpn, List.nil_append, List.mem_singleton] at hp
    subst hp
    exact fun z => na (by rw [show a = b from z]; exact hb)
  have ov : ∀ (it' : Value), A.over (.compLoop (.GeneratorExp elt [⟨tg, iter, [], 0⟩] scope pos) 0 it' .none cenv) [] = Z.A := fun it' => over_gen.trans hZ.symm
  intro k
  induction k with
  | zero =>
    rintro i s₀ s hk hi ⟨H, I, st, nf, w⟩
    have hin : i = n := by omega
    subst hin
    show Seg _ A _ _ _ s₀ _ ((compTurn (.GeneratorExp elt [⟨tg, iter, [], 0⟩] scope pos) 0 (.ref it) .none cenv).onRaise (leaving cenv)) [] s
    rw [compTurn_gen, Sem.onRaise_eq_wrap]
    refine seg_bind_wrap (wpAny_standAt ?_)
    refine seg_bind_wrap ?_
    rw [ov]
    refine thnF (T.done Z rfl rfl rfl hc i _ s _ H (fun _ _ => False) I (stat I nf) st (hn H w)) fun r s6 ⟨hr, I6⟩ => ?_
    subst hr
    exact seg_end (.ok .next) ⟨rfl, rfl, H, I6, w⟩
  | succ k ih =>
    rintro i s₀ s hk hi ⟨H, I, st, nf, w⟩
    have hlt : i < n := by omega
    obtain ⟨go, stp⟩ := step i H hlt w
    show Seg _ A _ _ _ s₀ _ ((compTurn (.GeneratorExp elt [⟨tg, iter, [], 0⟩] scope pos) 0 (.ref it) .none cenv).onRaise (leaving cenv)) [] s
    rw [compTurn_gen, Sem.onRaise_eq_wrap]
    refine seg_bind_wrap (wpAny_standAt ?_)
    refine seg_bind_wrap ?_
    rw [ov]
    refine thnF (T.item Z rfl rfl rfl hc i _ s _ H (fun _ _ => False) I (stat I nf) st go) fun r s6 ⟨u, hr, h6⟩ => ?_
    subst hr
    refine seg_bind_wrap ?_
    rw [ov]
    refine thnF h6 fun _ s7 ⟨x, H7, I7, r7, y7, st7, n7⟩ => ?_
    have I7' := I7.pinned (stat I7 n7) (T.obj _ _ st7)
    refine seg_bind_wrap ?_
    rw [ov]
    have pgr := pg.run _ s7 _ H7 x u _ I7' r7 (stp x H7 y7)
    rw [hxe, hE] at pgr
    refine thnF pgr fun _ s8 ⟨σ8, H8, I8, hw8, q8⟩ => ?_
    refine seg_bind_wrap ?_
    simp only [List.forIn_nil]
    refine wpAny_pure ?_
    simp only [if_true]
    have hy : ∀ v, yieldOut cenv v = yieldValue v := fun v => by simp only [yieldOut, hco, Bool.false_eq_true, if_false]
    simp only [hy]
    rw [Sem.bind_eq_wrap', Sem.bind_eq_wrap', Sem.wrap_wrap, Sem.wrap_wrap]
    refine seg_wrap ?_
    rw [ov]
    have per := pe.run _ s8 σ8 H8 _ I8 q8
    rw [hxe, hE] at per
    refine thnF per fun y s10 ⟨yv, H10, I10, r10, b, hb, hT, hF⟩ => ?_
    subst hb
    have r10 : y = Value.bool b := r10
    subst r10
    have pin' : ∀ c ∈ fp, ∀ o, s7.heap.get? c = some o → s10.heap.get? c = some o ∧ H10 c = none := fun c hc' o e =>
      let z := I10.pin (c, o) (List.mem_append_right _ (List.mem_append_right _ (mem_pinsAt hc' e)))
      ⟨z.1, z.2.1⟩
    have hl : σw.length = σ8.length := by rw [← hσ, ← hw8, wipe_length]
    have J10 : Inv Z [(a, og)] σw H10 s10 := I10.unpinned.weak hl fun j v e => by
      rw [← hσ, ← hw8] at e
      exact (wipe_some e).1
    have G10 : b = true → GI Z [(a, og)] σw fp tn W (i + 1) s10 := fun hb => ⟨H10, J10, T.keep _ _ _ st7 fun c hc' o e => (pin' c hc' o e).1, fun c hc' => by
      obtain ⟨o, e, _⟩ := T.obj _ _ st7 c hc'
      exact (pin' c hc' o e).2, hT hb⟩
    refine seg_at (seg_yield rfl rfl rfl ⟨i, b, H10, by omega, rfl, J10, hF, fun hb => ⟨G10 hb, fun s'' e1 e2 e3 => ?_⟩⟩)
    exact seg_again rfl (ih (i + 1) s'' s'' (by omega) hlt ((G10 hb).heapEq e1 e2 e3))
theorem seg_allS (hh : A.handled = none) (hZ : Z.A = A.deeper cenv) (T : Turn Z.prog Z.w Z.K tg J fp it tn) {R : GenEnd} {Y : Protocol} {k : Nat} {s₀ s : Shared} (st : tn 0 s.heap)
    (loop : Seg (model Z.prog Z.w) A R Y k s₀ (.compLoop (.GeneratorExp elt [⟨tg, iter, [], 0⟩] scope pos) 0 (.ref it) .none cenv) ((model Z.prog Z.w).den (.compLoop (.GeneratorExp elt [⟨tg, iter, [], 0⟩] scope pos) 0 (.ref it) .none cenv)) [] s) :
    Seg (model Z.prog Z.w) A R Y k s₀ (.compStart (.GeneratorExp elt [⟨tg, iter, [], 0⟩] scope pos) 0 (.ref it) .none cenv) ((model Z.prog Z.w).den (.compStart (.GeneratorExp elt [⟨tg, iter, [], 0⟩] scope pos) 0 (.ref it) .none cenv)) [] s := by
  show Seg _ A _ _ _ s₀ _ ((compStart (.GeneratorExp elt [⟨tg, iter, [], 0⟩] scope pos) 0 (.ref it) .none cenv).onRaise (leaving cenv)) [] s
  unfold compStart
  rw [Sem.onRaise_eq_wrap]
  show Seg _ A _ _ _ s₀ _ ((ask >>= _).wrap _ _ _ _) [] s
  refine seg_bind_wrap (wpAny_askSetting ?_)
  split
  · exact seg_again rfl loop
  · first
      | exact seg_bind_wrap (wpAny_rule (seg_bind_wrap (wpAny_standAt (seg_bind_wrap (T.self _ 0 s _ _ st (seg_again rfl loop))))))
      | (refine seg_bind_wrap (wpAny_rule ?_); show Seg _ A _ _ _ s₀ _ ((standAt iter.pos >>= _).wrap _ _ _ _) [] s; exact seg_bind_wrap (wpAny_standAt (seg_bind_wrap (T.self _ 0 s _ _ st (seg_again rfl loop)))))
theorem all_run {A0 : Around} {gi : Nat} {Rr : Result → Shared → Prop} (hh : A0.handled = none) (hroom : A0.depth + 10 < recursionLimit) (hgen : ∀ h : Heap, h.get? a = some og → h.IsGen a gi)
    (h1 : ∀ s' H', Inv Z [(a, og)] σw H' s' → W n H' → Rr (.ok (.ret (.bool true))) s') (h2 : ∀ s' H', Inv Z [(a, og)] σw H' s' → Fq H' → Rr (.ok (.ret (.bool false))) s') :
    ∀ (k i : Nat) (s : Shared), n - i = k → i ≤ n → GI Z [(a, og)] σw fp tn W i s →
      (∃ gs, s.gens[gi]? = some gs ∧ ∀ s'' : Shared, s''.heap = s.heap → s''.os = s.os → AllBare s''.gens → gs.Goes (model Z.prog Z.w) A0.in1.in1 (fun m s₀ r s₁ => r = .ok .next ∧ gR Z [(a, og)] σw W n m s₀ s₁) (gY Z [(a, og)] σw fp tn W Fq n) k (.send .none) s'') →
      codeAny (model Z.prog Z.w) A0 (.builtin "all.loop" ⟨[.ref a], []⟩) Rr s := by
  have bareS : ∀ {s : Shared} {x : GenState}, AllBare s.gens → x.bare = true → AllBare (s.setGen gi x).gens := fun hb hx => allBare_setGen hb hx
  intro k
  induction k with
  | zero =>
    rintro i s hk hi ⟨H, I, st, nf, w⟩ ⟨gs, hgs, hgo⟩
    refine codeAny_builtin F.entry_all_loop ?_
    rw [Around.under_plainId F.plain_all_loop _]
    show wpAny _ A0.in1 (pyNext (.ref a) >>= _) _ _ s
    have hg : s.heap.IsGen a gi := hgen _ (I.pin (a, og) (List.mem_append_right _ (List.mem_cons_self ..))).1
    refine wpAny_bind (wpAny_pyNext_genexpQ (A := A0.in1) hh I.nolimit (by show A0.depth < recursionLimit; omega) hg hgs (hgo _ rfl rfl (bareS I.bare rfl)) (fun v s₁ gs' hb hv => ?_) (fun s₁ hp h' hk => ?_))
    · obtain ⟨i', b, H', _, rfl, I1, hF, hT⟩ := hv
      refine wpAny_bind (wpAny_holding (wpAny_truthy_bool ?_))
      refine wpAny_bind (wpAny_letGo ?_)
      cases b with
      | true => exact ((hT rfl).2 s₁ rfl rfl I1.bare).elim
      | false =>
        simp only [Bool.false_eq_true, if_false]
        exact wpAny_bind (wpAny_rule (wpAny_pure (h2 _ H' (inv_heapEq I1 rfl rfl (bareS I1.bare hb)) (hF rfl))))
    · obtain ⟨_, H', I1, w1⟩ := hp
      refine wpAny_bind (wpAny_rule (wpAny_pure ?_))
      exact h1 _ H' (inv_heapEq (I1.kept (t' := s₁.toks) hk) rfl rfl (bareS (s := s₁) I1.bare rfl)) w1
  | succ k ih =>
    rintro i s hk hi ⟨H, I, st, nf, w⟩ ⟨gs, hgs, hgo⟩
    have hgl : gi < s.gens.size := (Array.getElem?_eq_some_iff.mp hgs).1
    refine codeAny_builtin F.entry_all_loop ?_
    rw [Around.under_plainId F.plain_all_loop _]
    show wpAny _ A0.in1 (pyNext (.ref a) >>= _) _ _ s
    have hg : s.heap.IsGen a gi := hgen _ (I.pin (a, og) (List.mem_append_right _ (List.mem_cons_self ..))).1
    refine wpAny_bind (GenW.wpAny_gsz (n := gi + 1) hgl (wpAny_pyNext_genexpQ (A := A0.in1) hh I.nolimit (by show A0.depth < recursionLimit; omega) hg hgs (hgo _ rfl rfl (bareS I.bare rfl)) (fun v s₁ gs' hb hv => ?_) (fun s₁ hp h' hk => ?_)))
    · intro hsz
      obtain ⟨i', b, H', hi', rfl, I1, hF, hT⟩ := hv
      have hsz1 : gi < s₁.gens.size := by
        have q : (s₁.setGen gi gs').gens.size = s₁.gens.size := GenW.setGen_size _ _ _
        have hsz' : gi + 1 ≤ (s₁.setGen gi gs').gens.size := hsz
        omega
      refine wpAny_bind (wpAny_holding (wpAny_truthy_bool ?_))
      refine wpAny_bind (wpAny_letGo ?_)
      cases b with
      | true =>
        simp only [if_true]
        obtain ⟨G1, kap⟩ := hT rfl
        have ei : i' = i := by omega
        subst ei
        refine wpAny_pure ⟨plainId_quiet F.plain_all_loop _, ih (i' + 1) _ (by omega) (by omega) (G1.heapEq rfl rfl (bareS I1.bare hb)) ⟨gs', setGen_at hsz1, fun s'' e1 e2 e3 => kap s'' e1 e2 e3⟩⟩
      | false =>
        simp only [Bool.false_eq_true, if_false]
        exact wpAny_bind (wpAny_rule (wpAny_pure (h2 _ H' (inv_heapEq I1 rfl rfl (bareS I1.bare hb)) (hF rfl))))
    · exact fun _ => absurd hp.1 (Nat.succ_ne_zero k)
end
section
variable {X : Cx}
def tAllG (P : Addr) (wi : TI) (g : TG) (te : TE) (vs : List Nat) : TE := fun σ H Q => wi σ H fun J H1 => GxR.TabG H1 P ∧ ∀ H2, GxR.Tabbed P H1 H2 → ∃ (n : Nat) (W : Nat → Hp → Prop), W 0 H2 ∧ (∀ H, W n H → J.stop n H ∧ Q (.bl true) H) ∧
  ∀ i H, i < n → W i H → J.go i H ∧ ∀ x H', J.yld i H x H' → g x (wipe σ vs) H' fun σ2 H3 => wipe σ2 vs = wipe σ vs ∧ te σ2 H3 fun y H4 => ∃ b, y = .bl b ∧ (b = true → W (i + 1) H4) ∧ (b = false → Q (.bl false) H4)
theorem wipe_wipe (σ : L2.St) (vs : List Nat) : wipe (wipe σ vs) vs = wipe σ vs := wipe_eq (wipe_length σ vs) fun i q => by rw [wipe_get, if_neg q]
theorem pe_allG {c P : Addr} {elt tg iter : Expr} {p pos gpos : Pos} {scope : Scope} {own : List (Str × Nat)} {wi : TI} {g : TG} {te : TE} {k : Nat}
    (hr : Room (k + 3) X.A) (hc : X.calm = true) (hN : X.N.Nodup) (hg : Gl X "all") (hm : X.mg "all" = none) (TB : GxR.TabB X.base X.mg c P) (hcode : X.env.code = .ref c) (hi : PI X tg iter wi) (S : GnOk X.N X.env.scope scope own)
    (hgt : ∀ (s : Shared) (H : Hp) (C : Addr) (code : Value) (bi : Addr) (A : Around) (fp : List Addr), PG (genCx X s H (genEnv scope (cloFrom X.env.cells scope.names []) C code bi X.env) A fp) tg g)
    (he : ∀ (s : Shared) (H : Hp) (C : Addr) (code : Value) (bi : Addr) (A : Around) (fp : List Addr), Room k A → PE (genCx X s H (genEnv scope (cloFrom X.env.cells scope.names []) C code bi X.env) A fp) elt te)
    (hs : ∀ v, genFold iter X.env v = pure v := by intro _; rfl) (hb : bootBuiltins "all" = some (.builtin "all") := by decide +kernel)
    (hst : starEach [.GeneratorExp elt [⟨tg, iter, [], 0⟩] scope gpos] X.env = (false, eval (.GeneratorExp elt [⟨tg, iter, [], 0⟩] scope gpos) X.env) :: starEach [] X.env := by rfl) :
    PE X (.Call (.Name "all" p) [.GeneratorExp elt [⟨tg, iter, [], 0⟩] scope gpos] [] pos) (tAllG P wi g te (own.map (·.2))) := by
  refine ⟨fun pins s σ H Q I h => ?_⟩
  have hfree : ∀ y ∈ scope.names, y.2 = .free → ∃ c, X.env.cells.lookup y.1 = some c := fun y hy e => by
    rcases S.blk.free y hy e with k | k
    · exact I.ok.has _ (.inl k)
    · exact I.ok.has _ (.inr k)
  refine wpAny_Call_Name_kw (ld_blt I hg hm hb ?_)
  refine PyProof.Rows.callWith_builtin1 ?_ hst (by rfl)
  rw [hst]
  show wpAny _ _ (spliced ((false, eval (.GeneratorExp elt [⟨tg, iter, [], 0⟩] scope gpos) X.env) :: backTo pos (starEach [] X.env))) _ _ s
  refine Calls.spliced_cons (wpAny_GeneratorExp_make S.co (closure_ok hfree) S.cell S.dot S.blk.kind hr.depth ?_ hs)
  refine thn (hi.run pins s σ H _ I h) fun xv s1 hx => thn hx fun itv s2 h2 => ?_
  obtain ⟨it, fp, tn, J, H1, e, I2, T, st2, f2, q⟩ := h2
  subst e
  obtain ⟨⟨ps, hP, ht⟩, q⟩ := q
  have hPs : s2.heap.get? P = some { cls := .none, data := .fields ps } := I2.hok P _ hP
  have cd : PySem.W.CodeHd s2.heap c P := TB.code.keeps fun b u e => I2.bk b u e
  refine ⟨I2.nolimit, ?_⟩
  have cont : ∀ (code : Value) (h3 : Heap) (tk : Nat) (ps' : Array Value), Heap.ExtBut P s2.heap h3 → s2.heap.objs.size ≤ h3.objs.size → h3.get? P = some { cls := .none, data := .fields ps' } → (∃ more, ps' = ps ++ more) → TriplesOk ps'.toList →
      wpAny (model X.prog X.w) X.A (builtinsFor X.env.globals X.env.builtins) (fun bi s₄ =>
        ∀ h', h'.Ns s₄.heap.objs.size (fun y => if y = ".0" then some (.ref it) else none) → Heap.SameBut s₄.heap.objs.size (s₄.heap.push { cls := .type "frame", data := .dict #[] }) h' →
          wpAny (model X.prog X.w) X.A (spliced (backTo pos (starEach [] X.env))) (fun us s' => wpAny (model X.prog X.w) X.A (call (.builtin "all") (.ref h'.objs.size :: us)) (EP X pins σ Q) X.xe s') X.xe { s₄ with
            gens := s₄.gens.push (.fresh (.compStart (.GeneratorExp elt [⟨tg, iter, [], 0⟩] scope gpos) 0 (.ref it) .none (genEnv scope (cloFrom X.env.cells scope.names []) s₄.heap.objs.size code bi X.env))),
            toks := s₄.toks + 1 + 1 + 1,
            heap := h'.push { cls := .type "generator", data := .fields #[.int s₄.gens.size 0, .str "<genexpr>" (s₄.toks + 1), .str (X.env.qual ++ "<genexpr>") (s₄.toks + 1 + 1)] } }) X.xe { s2 with heap := h3, toks := tk } := by
    intro code h3 tk ps' hx hsz hP3 hmore ht3
    obtain ⟨more, em⟩ := hmore
    subst em
    obtain ⟨bm, ob, e1, e2, e3, e4, e5, e6, e7, e8⟩ := TB.bm
    have keep3 : ∀ b u, b ≠ P → s2.heap.get? b = some u → h3.get? b = some u := fun b u hb e => hx b u hb e
    refine wpAny_builtinsFor (m := X.mg) (by rw [I2.ok.glob]; exact (I2.mod.glob.keeps I2.bk).extBut hx TB.gP) e1 e2 (keep3 _ _ e4 (I2.bk _ _ e5)) e6 e7 e8 ?_
    intro h' hn' hs'
    have I3 : Inv X pins σ (upd H1 P (.tbl (ps ++ more))) { s2 with heap := h3, gens := s2.gens, drawn := s2.drawn, toks := tk } := GxR.inv_tab I2 hP keep3 hP3 I2.bare
    obtain ⟨n, W, w0, hend, step⟩ := q _ ⟨⟨ps ++ more, upd_same, ht3⟩, fun b hb => upd_ne hb⟩
    have nP : ∀ b ∈ fp, b ≠ P := fun b hb z => by
      have k := (f2 b hb).1
      rw [z, hP] at k
      cases k
    have sz : ∀ b ∈ fp, b < s2.heap.objs.size := fun b hb => by
      obtain ⟨o, e, _⟩ := T.obj _ _ st2 b hb
      exact Heap.lt_size e
    have f3 : ∀ b ∈ fp, FpOk X pins (upd H1 P (.tbl (ps ++ more))) b ∧ b < h3.objs.size := fun b hb => ⟨⟨(upd_ne (nP b hb)).trans (f2 b hb).1, (f2 b hb).2⟩, Nat.lt_of_lt_of_le (sz b hb) hsz⟩
    have szh : h'.objs.size = h3.objs.size + 1 := by rw [hs'.1, Heap.size_push]
    have keep' : ∀ b o, h3.get? b = some o → h'.get? b = some o := fun b o e => hs'.extBut b o (Nat.ne_of_lt (Heap.lt_size e)) (Heap.get?_push_of_some _ e)
    generalize hog : ({ cls := .type "generator", data := .fields #[.int (({ s2 with heap := h3, toks := tk } : Shared).gens.size) 0, .str "<genexpr>" (({ s2 with heap := h3, toks := tk } : Shared).toks + 1), .str (X.env.qual ++ "<genexpr>") (({ s2 with heap := h3, toks := tk } : Shared).toks + 1 + 1)] } : Obj) = og
    have ha : (h'.push og).get? h'.objs.size = some og := Heap.get?_push_size _ (by rw [← hog]; rfl)
    have hod : ∀ v, og.data ≠ .cell v := fun v e => by
      rw [← hog] at e
      cases e
    have I5 := gen_start (A := X.A.in1.in1) (code := code) (bi := builtinsNs) (h' := h'.push og) (g' := s2.gens.push (.fresh (.compStart (.GeneratorExp elt [⟨tg, iter, [], 0⟩] scope gpos) 0 (.ref it) .none (genEnv scope (cloFrom X.env.cells scope.names []) h3.objs.size code builtinsNs X.env)))) (t' := tk + 1 + 1 + 1) I3 S hN hc (I.ok.hd hc) I.ok.frames f3 rfl (hn'.push _) (fun b o e => Heap.get?_push_of_some _ (keep' b o e)) (I2.bare.push rfl) ha (by rw [szh]; exact Nat.lt_succ_self _) hod
    have st3 : tn 0 h3 := T.keep _ _ _ st2 fun b hb o e => keep3 b o (nP b hb) e
    have st5 : tn 0 (h'.push og) := T.keep _ _ _ st3 fun b hb o e => Heap.get?_push_of_some _ (keep' b o e)
    have back : ∀ {s' : Shared} {H' : Hp}, Inv (genCx X { s2 with heap := h3, gens := s2.gens, drawn := s2.drawn, toks := tk } (upd H1 P (.tbl (ps ++ more))) (genEnv scope (cloFrom X.env.cells scope.names []) h3.objs.size code builtinsNs X.env) (X.A.in1.in1.deeper (genEnv scope (cloFrom X.env.cells scope.names []) h3.objs.size code builtinsNs X.env)) fp) [(h'.objs.size, og)] (wipe σ (own.map (·.2))) H' s' → Inv X pins σ H' s' := fun {s' H'} I6 =>
      I3.call' (ch := fp) I6.os I6.base I6.hok I6.bare fun b hb => ⟨(f3 b hb).1.2.2.2.1, (f3 b hb).1.2.1, (f3 b hb).1.2.2.2.2.1, (f3 b hb).1.2.2.2.2.2⟩
    refine Calls.spliced_nil ?_
    refine call_function_tree F.kind_all F.plain_all F.entry_all (F.args_all1 _) ?_
    unfold Builtin.«all»
    refine wpAny_bind (m := oneArg "all" _) (wpAny_pure ?_)
    have hgen : ∀ h : Heap, h.get? h'.objs.size = some og → h.IsGen h'.objs.size s2.gens.size := fun h e => by
      rw [← hog] at e
      exact ⟨_, _, _, e, rfl, rfl, rfl⟩
    refine wpAny_bind (wpAny_pyIter_gen (hgen _ ha) ?_)
    have G0 := (show GI _ [(h'.objs.size, og)] (wipe σ (own.map (·.2))) fp tn W 0 _ from ⟨_, I5, st5, fun b hb => (f3 b hb).1.1, w0⟩)
    have dp := hr.dp
    refine wpAny_pure ⟨plainId_quiet F.plain_all_loop _, all_run (Z := genCx X { s2 with heap := h3, gens := s2.gens, drawn := s2.drawn, toks := tk } (upd H1 P (.tbl (ps ++ more))) (genEnv scope (cloFrom X.env.cells scope.names []) h3.objs.size code builtinsNs X.env) (X.A.in1.in1.deeper (genEnv scope (cloFrom X.env.cells scope.names []) h3.objs.size code builtinsNs X.env)) fp) (A0 := X.A) (Fq := fun H' => Q (.bl false) H') (n := n) (I.ok.hd hc) (by omega) hgen (fun s' H' I6 w6 => ⟨.bl true, H', back I6, rfl, (hend H' w6).2⟩) (fun s' H' I6 q6 => ⟨.bl false, H', back I6, rfl, q6⟩) n 0 _ (Nat.sub_zero _) (Nat.zero_le _) G0 ⟨_, Array.getElem?_push_size .., fun s'' x1 x2 x3 => ⟨rfl, ?_⟩⟩⟩
    have G2 := G0.heapEq x1 x2 x3
    refine seg_allS (A := X.A.in1.in1) (Z := genCx X { s2 with heap := h3, gens := s2.gens, drawn := s2.drawn, toks := tk } (upd H1 P (.tbl (ps ++ more))) (genEnv scope (cloFrom X.env.cells scope.names []) h3.objs.size code builtinsNs X.env) (X.A.in1.in1.deeper (genEnv scope (cloFrom X.env.cells scope.names []) h3.objs.size code builtinsNs X.env)) fp) (I.ok.hd hc) rfl T (by rw [x1]; exact st5) ?_
    refine seg_all (A := X.A.in1.in1) (Z := genCx X { s2 with heap := h3, gens := s2.gens, drawn := s2.drawn, toks := tk } (upd H1 P (.tbl (ps ++ more))) (genEnv scope (cloFrom X.env.cells scope.names []) h3.objs.size code builtinsNs X.env) (X.A.in1.in1.deeper (genEnv scope (cloFrom X.env.cells scope.names []) h3.objs.size code builtinsNs X.env)) fp) (vs := own.map (·.2)) (elts := ()) (I.ok.hd hc) rfl rfl rfl rfl rfl hc S.co T (hgt _ _ _ _ _ _ _) (he _ _ _ _ _ _ _ ?_) (fun hm => ?_) (fun H w => (hend H w).1) (fun i H hi w => ?_) (wipe_wipe _ _) n 0 s'' s'' (Nat.sub_zero _) (Nat.zero_le _) G2
    · exact Room.deeper (k := k) hr.in1.in1 _
    · have k1 : h'.objs.size < s2.heap.objs.size := sz _ hm
      have k2 : h'.objs.size = h3.objs.size + 1 := szh
      have k3 : s2.heap.objs.size ≤ h3.objs.size := hsz
      omega
    · obtain ⟨go, stp⟩ := step i H hi w
      refine ⟨go, fun x H' y => ?_⟩
      have z := stp x H' y
      rw [wipe_wipe]
      exact z
  cases hf : codeAmong gpos ps.toList with
  | none =>
    refine wpAny_genexprCodeX hcode (cd.code hPs ht) (cd.tab hPs) hf fun c' h' tk hx hge hlt hco' _ htab' _ => ?_
    obtain ⟨o1, vs, f1, tf, fl, tg', inF, tx, tt, op, _, _, _, _, _, _, _, _, _, htr, _⟩ := hco'
    exact cont _ h' tk _ hx (Nat.le_trans hge (Nat.le_of_lt hlt)) htab'.2 ⟨_, rfl⟩ htr
  | some cv =>
    refine wpAny_genexprCode_hit hcode (cd.code hPs ht) hf ?_
    exact cont cv s2.heap s2.toks ps (Heap.ExtBut.refl _ _) (Nat.le_refl _) hPs ⟨#[], by simp⟩ ht
end
end K11
/-! K11T: an exception that leaves a comprehension. -/
namespace K11
open PySem PySem.Spec PyProof.Rows
open L2
section
variable {M : Model} {A : Around} {E : Value → Shared → Prop} {s : Shared} {Z : Obj → Prop} {base : Heap} {env : Env} {outer l : List Env} {L e : Addr}
/-- noted and left, whatever flight its traceback tells -/
theorem leave_fl {fl : Value} {Q : Unit → Shared → Prop} (hZ : HandSPX.Steady Z) (hfr : A.frames = some (env :: outer)) (hf : env.frame = some L) (kb : base.StaysIn s.heap) (ne : base.get? e = none) (hl : s.heap.FunFrames base (env :: outer))
    (ht : HandSPX.TracedZ s.heap base e Z fl) (hQ : ∀ h', HandSPX.FlyingZ base outer e Z h' → s.heap.UpToSlots h' → Q () { s with heap := h' }) : wpAny M A (leaving env (.ref e)) Q E s := by
  by_cases hq : (fl == rawInt L) = true
  · have q : fl = rawInt L := by simpa using hq
    rw [q] at ht
    exact HandSPX.leaves_heldZ hf ⟨kb, ne, hl, ht⟩ hQ
  · obtain ⟨oe, us, tb, ot, ws, ge, gz, gd, g1, gn, gt, gT, gdT, g3⟩ := ht
    unfold leaving noteFrame
    simp only [hf]
    refine wpAny_bind (wpAny_bind (wpAny_field ge gd g1 ?_))
    rw [if_pos (show (Value.ref tb != Value.none) = true from by simp)]
    refine wpAny_bind (wpAny_field gT gdT g3 ?_)
    rw [if_neg hq]
    refine wpAny_bind (wpAny_setField gT gdT (Array.getElem?_eq_some_iff.mp g3).1 ?_)
    have oth : ∀ c, c ≠ tb → (s.heap.update tb (Obj.mapFields (·.setIfInBounds 3 Value.none))).get? c = s.heap.get? c := fun c hc => Heap.get?_update_other _ _ (Ne.symm hc)
    have norec : ∀ c o, s.heap.get? c = some o → (∀ vs, o.data ≠ .fields vs) → c ≠ tb := fun c o hc hd q => by
      rw [q, gT] at hc
      cases hc
      exact hd ws gdT
    refine HandSPX.wpAny_newEntryZ hZ hfr (hl.of_keeps fun c o hc hd => ⟨o, (oth c (norec c o hc hd)).trans hc, rfl⟩) hf ((oth e (Ne.symm gt)).trans ge)
      (fun c o hc => (oth c fun q => by rw [q, gn] at hc; cases hc).trans (kb c o hc)) ne gd (Array.getElem?_eq_some_iff.mp g1).1 gz fun h' hN => ?_
    obtain ⟨x1, ⟨_, _, x2⟩, x3, x4⟩ := hN
    exact hQ h' ⟨x1, ne, x2, x3⟩ fun c o hc hd => x4 c o ((oth c (norec c o hc hd)).trans hc) hd
end
section
variable {X : Cx} {pins : List (Addr × Obj)} {σ : L2.St} {H : Hp} {s s' : Shared}
/-- an exception in the air, whatever flight its traceback tells -/
def XF (X : Cx) (E : XK) (u : Value) (s' : Shared) : Prop :=
  ∃ (a : Addr) (B : Heap) (sI : Shared) (pins : List (Addr × Obj)) (σ : L2.St) (H : Hp) (cls : Value) (d : Option Addr) (fl : Value),
    u = .ref a ∧ Inv X pins σ H sI ∧ (∀ b o, sI.heap.get? b = some o → b ∉ frs X.stack → B.get? b = some o) ∧ sI.heap.UpToSlots s'.heap ∧
      (B.StaysIn s'.heap ∧ B.get? a = none ∧ s'.heap.FunFrames B X.stack ∧ HandSPX.TracedZ s'.heap B a (Zc cls d) fl) ∧ H a = none ∧ s'.os = sI.os ∧ AllBare s'.gens ∧ E cls d H
theorem XF.leave (hs : X.stack = X.env :: X.outer) (hf : X.env.frame = some X.env.locals) (hex : X.ex = []) {E : XK} {E₁ : Value → Shared → Prop} {u : Value} (x : XF X E u s') :
    wpAny (model X.prog X.w) X.A (leaving X.env u) (fun _ s'' => L2.CX X.prog X.w X.outer X.H_0 X.s_0 E u s'') E₁ s' := by
  obtain ⟨a, B, sI, pins, σ, H, cls, d, fl, rfl, I, nb, up, ⟨kb, bn, hl, ht⟩, na, os, ag, w⟩ := x
  have hfr : X.A.frames = some (X.env :: X.outer) := by rw [I.ok.frames, hs]
  have nst : ∀ b o, X.s_0.heap.get? b = some o → b ∉ X.fs → b ∉ frs X.stack := fun b o he hb hm => by
    rcases List.mem_cons.mp (I.stkSub b hm) with z | z
    · have h1 := Heap.lt_size he
      have h2 := I.ok.above
      rw [z] at h1
      exact (Nat.lt_irrefl _ (Nat.lt_of_lt_of_le h1 h2)).elim
    · exact hb z
  have nex : ∀ b, b ∉ X.ex := fun b hb => by rw [hex] at hb; cases hb
  rw [hs] at hl
  refine leave_fl Zc.steady hfr hf kb bn hl ht fun h' fl up' => ⟨a, B, H, cls, d, rfl, fl, I.inGround nb, ⟨fun b o he n hb => nb b o (I.base.keep b o he n hb (nex b)) (nst b o he hb), fun b o he hb => ?_, fun b o he n => I.base.free b o he n (nex b), fun b o he hb => ?_, I.base.tups, I.base.frzs, I.base.tbls⟩, na, os.trans I.os, ag, w⟩
  · obtain ⟨_, o1, e1, hnf⟩ := I.ok.funs.mem hb
    rw [he] at e1
    cases e1
    obtain ⟨sl, k1⟩ := I.base.slot b o he (I.ok.frf b hb) hb (nex b)
    obtain ⟨sl2, k2⟩ := up b _ k1 hnf
    obtain ⟨sl3, k3⟩ := up' b _ k2 hnf
    exact ⟨sl3, k3⟩
  · obtain ⟨o', k1⟩ := I.base.there b o he (nex b)
    exact ⟨o', nb b o' k1 (nst b o he hb)⟩
end
/-- frames that stand stay frames -/
theorem fun_keep {b1 b2 h h' : Heap} : ∀ {l : List Env}, h.FunFrames b1 l → (∀ b ∈ frs l, b2.get? b = none ∧ ∀ o, h.get? b = some o → h'.get? b = some o) → h'.FunFrames b2 l
  | [], _, _ => trivial
  | env :: l, x, k => by
    obtain ⟨hk, ⟨L, o, hf, _, ho, hd⟩, hr⟩ := x
    have k1 := k L (List.mem_filterMap.mpr ⟨env, List.mem_cons_self, hf⟩)
    refine ⟨hk, ⟨L, o, hf, k1.1, k1.2 o ho, hd⟩, fun_keep hr fun b hb => ?_⟩
    obtain ⟨z, hz, q⟩ := List.mem_filterMap.mp hb
    exact k b (List.mem_filterMap.mpr ⟨z, List.mem_cons_of_mem _ hz, q⟩)
theorem note_eq {x : Value} {e1 e2 : Env} (h : e1.frame = e2.frame) : noteFrame x e1 = noteFrame x e2 := by
  unfold noteFrame PySem.frameOf
  rw [h]
section
variable {X : Cx} {pins : List (Addr × Obj)} {σ : L2.St} {H : Hp} {s s' : Shared}
/-- what the element of a comprehension may let out -/
def blkXe (X : Cx) (s3 : Shared) (H3 : Hp) (scope : Scope) (ce : Env) (fp : List Addr) (E : XK) (u : Value) (s' : Shared) : Prop :=
  ∃ (p : List (Addr × Obj)) (σ : L2.St) (H : Hp) (s : Shared), Inv (X.blk s3 H3 scope ce fp) p σ H s ∧ L2.CX X.prog X.w X.stack H s E u s'
theorem blk_exit {s3 : Shared} {H3 : Hp} {scope : Scope} {ce : Env} {fp : List Addr} {E : XK} {use : Option (Value → Sem Unit)} {Qf : Value → Shared → Prop} {acc u : Value} {E' : Value → Shared → Prop}
    (hs : X.stack = X.env :: X.outer) (hf : X.env.frame = some X.env.locals) (hx : ∀ u s', XF X E u s' → X.xe u s') (I3 : Inv X pins σ H3 s3) (f3 : ∀ b ∈ fp, FpOk X pins H3 b) (cL : ce.locals = s3.heap.objs.size) (cF : ce.frame = X.env.frame)
    (x : blkXe X s3 H3 scope ce fp E u s') :
    wpAny (model X.prog X.w) X.A (noteFrame u ce) (fun _ s'' => compPost (model X.prog X.w) X.A X.xe use Qf acc s3.heap.objs.size (.error u) s'') E' s' := by
  obtain ⟨p5, σ5, H5, s5, I5, a, B, H', cls, d, rfl, fl, hok, ub, na, os, ag, hE⟩ := x
  have hfr : X.A.frames = some (X.env :: X.outer) := by rw [I3.ok.frames, hs]
  have c5 : H5 s3.heap.objs.size = none := by
    have z : H5 ce.locals = none := I5.free
    rw [cL] at z
    exact z
  obtain ⟨m, hn, _⟩ := I5.loc
  have hn : s5.heap.Ns ce.locals m := hn
  rw [cL] at hn
  have ltF : ∀ b ∈ frs X.stack, b < s3.heap.objs.size := fun b hb => by
    obtain ⟨_, o, e, _⟩ := I3.stack.mem hb
    exact Heap.lt_size e
  have cF0 : s3.heap.objs.size ∉ frs X.stack := fun hb => Nat.lt_irrefl _ (ltF _ hb)
  have cB : ∀ o, s5.heap.get? s3.heap.objs.size = some o → B.get? s3.heap.objs.size = some o := fun o e => ub.keep _ o e c5 cF0
  have nC : B.get? s3.heap.objs.size ≠ none := by
    obtain ⟨o, es, ep, ho, _⟩ := hn
    rw [cB _ ho]
    simp
  rw [note_eq cF]
  have fl0 := fl
  rw [hs] at fl
  refine HandSPX.looks_onZ Zc.steady hfr hf fl fun h1 hh up => ?_
  obtain ⟨kb, bn, hl, ht⟩ := hh
  rw [← hs] at hl
  refine ⟨m, hn.at' fun o e => kb _ o (cB o e), fun h2 sb cenv' _ => ?_⟩
  -- the ground without the block's names
  obtain ⟨B1, b1, b2⟩ := restrict B fun b => decide (b ≠ s3.heap.objs.size)
  have b1' : ∀ b, b ≠ s3.heap.objs.size → B1.get? b = B.get? b := fun b hb => b1 b (by simp [hb])
  have b2' : B1.get? s3.heap.objs.size = none := b2 _ (by simp)
  have bB : ∀ b o, B1.get? b = some o → b ≠ s3.heap.objs.size ∧ B.get? b = some o := fun b o e => by
    by_cases hb : b = s3.heap.objs.size
    · rw [hb, b2'] at e
      cases e
    · rw [b1' b hb] at e
      exact ⟨hb, e⟩
  have kb1 : B1.StaysIn h2 := fun b o e => by
    obtain ⟨hb, e⟩ := bB b o e
    exact (sb.2 b hb).trans (kb b o e)
  have n1 : ∀ b, B.get? b = none → B1.get? b = none := fun b e => by
    cases q : B1.get? b with
    | none => rfl
    | some o =>
      rw [(bB b o q).2] at e
      cases e
  have hl1 : h2.FunFrames B1 X.stack := fun_keep hl fun b hb => ⟨n1 b (hl.mem hb).1, fun o e => (sb.2 b fun q => cF0 (q ▸ hb)).trans e⟩
  obtain ⟨oe, us, tb, ot, ws, ge, gz, gd, g1, gn, gt, gT, gdT, g3⟩ := ht
  have na1 : a ≠ s3.heap.objs.size := fun q => nC (by rw [← q]; exact bn)
  have nt1 : tb ≠ s3.heap.objs.size := fun q => nC (by rw [← q]; exact gn)
  have ge2 : h2.get? a = some oe := (sb.2 a na1).trans ge
  have gT2 : h2.get? tb = some ot := (sb.2 tb nt1).trans gT
  unfold PySem.passOn
  refine wpAny_bind (wpAny_field (s := { s' with heap := h2 }) ge2 gd g1 ?_)
  rw [if_neg (show ¬ ((Value.ref tb == Value.none) = true) from by simp)]
  refine wpAny_bind (HandSPX.setFlight_anyZ (s := { s' with heap := h2 }) (base := B1) (Z := Zc cls d) (l := X.stack) kb1 hl1 ⟨oe, us, tb, ot, ws, ge2, gz, gd, g1, n1 tb gn, gt, gT2, gdT, g3⟩ fun h3 k1 k2 k3 k4 => ?_)
  refine wpAny_throw (hx _ _ ?_)
  -- the def's own state
  obtain ⟨G, q1, q2⟩ := restrict s'.heap fun b => (B1.get? b).isSome || decide (b ∈ frs X.stack)
  have st : B.StaysIn s'.heap := fl0.1
  have gB : ∀ b o, B1.get? b = some o → G.get? b = some o := fun b o e => by
    rw [q1 b (by simp [e])]
    exact st b o (bB b o e).2
  have gF : ∀ b, b ∈ frs X.stack → G.get? b = s'.heap.get? b := fun b hb => q1 b (by simp [hb])
  have og : ∀ b o, G.get? b = some o → s'.heap.get? b = some o ∧ ((B1.get? b).isSome = true ∨ b ∈ frs X.stack) := fun b o e => by
    cases q : ((B1.get? b).isSome || decide (b ∈ frs X.stack)) with
    | false => rw [q2 b q] at e; cases e
    | true =>
      rw [q1 b q] at e
      exact ⟨e, by simpa [Bool.or_eq_true] using q⟩
  have notC : ∀ b o, s3.heap.get? b = some o → b ≠ s3.heap.objs.size := fun b o e => Nat.ne_of_lt (Heap.lt_size e)
  have c' : H' s3.heap.objs.size = none := by
    obtain ⟨o, es, ep, ho, _⟩ := hn
    exact ub.free _ o ho c5
  have hbase : Un (frs X.stack) fp H3 H5 s3.heap s5.heap := I5.base
  have un : Un (frs X.stack) fp H3 H' s3.heap G := by
    refine ⟨fun b o e n hb hx => ?_, fun b o e n hb hx => ?_, fun b o e n hx => ?_, fun b o e hx => ?_, fun b xs e => ub.tups b xs (hbase.tups b xs e), fun b o xs e => ub.frzs b o xs (hbase.frzs b o xs e), fun b ps e => ?_⟩
    · exact gB b o (by rw [b1' b (notC b o e)]; exact ub.keep b o (hbase.keep b o e n hb hx) (hbase.free b o e n hx) hb)
    · obtain ⟨sl, k⟩ := hbase.slot b o e n hb hx
      obtain ⟨sl2, k'⟩ := ub.slot b _ k hb
      exact ⟨sl2, by rw [gF b hb]; exact k'⟩
    · obtain ⟨o', k⟩ := hbase.there b o e hx
      exact ub.free b o' k (hbase.free b o e n hx)
    · obtain ⟨o', k⟩ := hbase.there b o e hx
      by_cases hb : b ∈ frs X.stack
      · obtain ⟨sl, q⟩ := ub.slot b o' k hb
        exact ⟨_, by rw [gF b hb]; exact q⟩
      · obtain ⟨o2, q⟩ := ub.there b o' k hb
        exact ⟨o2, gB b o2 (by rw [b1' b (notC b o e)]; exact q)⟩
    · obtain ⟨m1, k⟩ := hbase.tbls b ps e
      obtain ⟨m2, k'⟩ := ub.tbls b _ k
      exact ⟨m1 ++ m2, by rw [k', Array.append_assoc]⟩
  have hokG : HOk X.prog X.w H' G := fun b o e => (hok b o e).stay (fun c v hc k => gB c v (by
    rw [b1' c fun q => ?_]
    · exact k
    · rw [q] at hc
      rcases hc with hc | hc
      · rw [← hc, c'] at e
        cases e
      · rw [c'] at hc
        cases hc)) (fun _ k => k) fun _ _ k => k
  have J := I3.call (h' := G) (g' := s'.gens) (d' := s'.drawn) (t' := s'.toks) un hokG ag fun b hb => ⟨(f3 b hb).2.2.2.1, (f3 b hb).2.1, (f3 b hb).2.2.2.2.1, (f3 b hb).2.2.2.2.2⟩
  refine ⟨a, B1, _, pins, σ, H', cls, d, _, rfl, J, fun b o e hb => ?_, fun b o e hd => ?_, ⟨k1, n1 a bn, k2, k3⟩, na, ?_, ag, hE⟩
  · obtain ⟨e', k⟩ := og b o e
    rcases k with k | k
    · obtain ⟨o', q⟩ := Option.isSome_iff_exists.mp k
      have z := st b o' (bB b o' q).2
      rw [e'] at z
      cases z
      exact q
    · exact absurd k hb
  · obtain ⟨e', k⟩ := og b o e
    have nb : b ≠ s3.heap.objs.size := fun q => by
      rcases k with k | k
      · rw [q, b2'] at k
        cases k
      · exact cF0 (q ▸ k)
    obtain ⟨sl, r1⟩ := up b o e' hd
    obtain ⟨sl2, r2⟩ := k4 b _ ((sb.2 b nb).trans r1) hd
    exact ⟨sl2, r2⟩
  · show s'.os = s3.os
    rw [os]
    exact I5.os
end
section
variable {X : Cx}
theorem lcx_core {E : XK} {pins : List (Addr × Obj)} {s : Shared} {σ : L2.St} {H : Hp} {Q : VK} {elt tg iter : Expr} {ifs : List Expr} {scope : Scope} {ow : List (Str × Nat)} {pos pos' : Pos} {wj : TI} {g : TG} {tt : TT} {te : TE} {us : Option (Value → Sem Unit)} {Rf : Value → Shared → Prop}
    (hsk : X.stack = X.env :: X.outer) (hfm : X.env.frame = some X.env.locals) (hxF : ∀ u s', XF X E u s' → X.xe u s') (hc : X.calm = true) (hnd : X.N.Nodup) (I : Inv X pins σ H s) (hi : PI X tg iter wj) (ok : BlkOk X.N X.env.scope scope ow)
    (hg : ∀ (s : Shared) (H : Hp) (C : Addr) (cl : List (Str × Addr)) (fq : List Addr), PG (X.blk s H scope (compEnvC scope cl C X.env) fq) tg g) (ht : ∀ (s : Shared) (H : Hp) (C : Addr) (cl : List (Str × Addr)) (fq : List Addr), PTs (X.blk s H scope (compEnvC scope cl C X.env) fq) ifs tt)
    (he : ∀ (s : Shared) (H : Hp) (C : Addr) (cl : List (Str × Addr)) (fq : List Addr), PE ((X.blk s H scope (compEnvC scope cl C X.env) fq).wish (blkXe X s H scope (compEnvC scope cl C X.env) fq E)) elt te) (hs : ∀ x, foldedSetIterable iter X.env x = pure x)
    (h : tLc wj g tt te (ow.map (·.2)) σ H Q)
    (hend : ∀ D C r' m G', Inv X pins σ G' r' → Q (.ref D) G' → r'.heap.Ns C m → FpOk X pins G' C → compPost (model X.prog X.w) X.A X.xe us Rf (.ref D) C (.ok .next) r') :
    wpAny (model X.prog X.w) X.A (comprehension (.ListComp elt [⟨tg, iter, ifs, 0⟩] scope pos) scope X.env pos' (newList []) false (eval iter X.env) us) Rf X.xe s := by
  have hfr0 : ∀ y ∈ scope.names, y.2 = .free → ∃ c, X.env.cells.lookup y.1 = some c := fun y hy e => by
    rcases ok.free y hy e with k | k
    · exact I.ok.has _ (.inl k)
    · exact I.ok.has _ (.inr k)
  refine wpAny_comprehension_free (use := us) rfl hs (closure_ok hfr0) ok.kind (fun y hy e => by rw [ok.uniq y hy, e])
    (thn (hi.run pins s σ H _ I h) fun xv u1 hx => thn hx fun iv u2 k2 => ?_)
  obtain ⟨it, fq, tm, J, G2, e, K2, T, t2, fo2, q⟩ := k2
  subst e
  refine wpAny_newObj_type (newEnv_comp ?_) (by show 0 ≤ sizeLine; decide)
  generalize hD : u2.heap.objs.size = D
  have hDl : G2 D = none := K2.hok.fresh (Nat.le_of_eq hD)
  obtain ⟨W, ⟨mm, z0⟩, trn⟩ := q D hDl
  -- the new list
  generalize hs3 : ({ u2 with heap := u2.heap.push { cls := .type "list", data := .seq ([] : List Value).toArray } } : Shared) = u3
  have K3 : Inv X pins σ (upd G2 D (.lst [])) u3 := by
    rw [← hs3]
    refine K2.laid (t' := u2.toks) (fun b o e => Heap.get?_push_of_some _ e) (Nat.le_of_eq hD) ⟨Nat.zero_le _, [], 0, .nil, ?_⟩
    rw [← hD]
    exact Heap.get?_push_size _ rfl
  have h3 : u3.heap = u2.heap.push { cls := .type "list", data := .seq ([] : List Value).toArray } := by rw [← hs3]
  have sz : ∀ b ∈ fq, b < u2.heap.objs.size := fun b hb => by
    obtain ⟨o, e, _⟩ := T.obj _ _ t2 b hb
    exact Heap.lt_size e
  have fo3 : ∀ b ∈ fq, FpOk X pins (upd G2 D (.lst [])) b ∧ b < u3.heap.objs.size := fun b hb => by
    have hlt := sz b hb
    refine ⟨⟨?_, (fo2 b hb).2⟩, by rw [h3, Heap.size_push]; exact Nat.lt_succ_of_lt hlt⟩
    rw [upd_ne (by rw [← hD]; exact Nat.ne_of_lt hlt)]
    exact (fo2 b hb).1
  have t3 : tm 0 u3.heap := T.keep _ _ _ t2 fun b _ o e => by rw [h3]; exact Heap.get?_push_of_some _ e
  have K4 := block_start K3 ok hnd fo3
  have rg := hg u3 (upd G2 D (.lst [])) u3.heap.objs.size (cellsFrom (u3.heap.objs.size + 1) scope.names (cloFrom X.env.cells scope.names [])) fq
  have rt := ht u3 (upd G2 D (.lst [])) u3.heap.objs.size (cellsFrom (u3.heap.objs.size + 1) scope.names (cloFrom X.env.cells scope.names [])) fq
  have re := he u3 (upd G2 D (.lst [])) u3.heap.objs.size (cellsFrom (u3.heap.objs.size + 1) scope.names (cloFrom X.env.cells scope.names [])) fq
  show codeAny _ _ (.compStart (.ListComp elt [⟨tg, iter, ifs, 0⟩] scope pos) 0 (.ref it) (.ref D) (compEnvC scope (cellsFrom (u3.heap.objs.size + 1) scope.names (cloFrom X.env.cells scope.names [])) u3.heap.objs.size X.env)) (compPost (model X.prog X.w) X.A X.xe us Rf (.ref D) u3.heap.objs.size) { u3 with heap := pushCells (u3.heap.push { cls := .type "dict", data := .dict #[] }) scope.names }
  have nfq : ∀ b ∈ fq, (upd G2 D (.lst [])) b = none := fun b hb => (fo3 b hb).1.1
  generalize hcv : compEnvC scope (cellsFrom (u3.heap.objs.size + 1) scope.names (cloFrom X.env.cells scope.names [])) u3.heap.objs.size X.env = cv at K4 rg rt re ⊢
  have cvL : cv.locals = u3.heap.objs.size := by subst hcv; rfl
  have cvF : cv.frame = X.env.frame := by subst hcv; rfl
  generalize hH3 : upd G2 D (.lst []) = G3 at K3 K4 rg rt re z0 nfq fo3
  generalize hs4 : ({ u3 with heap := pushCells (u3.heap.push { cls := .type "dict", data := .dict #[] }) scope.names } : Shared) = u4 at K4 ⊢
  have t4 : tm 0 u4.heap := T.keep _ _ _ t3 fun b _ o e => by rw [← hs4]; exact pushCells_keeps _ _ _ _ (Heap.get?_push_of_some _ e)
  have sta : ∀ {σ' : L2.St} {G' : Hp} {r' : Shared}, Inv (X.blk u3 G3 scope cv fq) [] σ' G' r' → (∀ b ∈ fq, G' b = none) → ∀ b ∈ fq, FpOk (X.blk u3 G3 scope cv fq) [] G' b := fun {σ' G' r'} J' hn b hb =>
    ⟨hn b hb, (J'.ok.exf b hb).1, J'.ok.exfs b hb, .inl hb, fun x c e => (J'.ok.exf b hb).2 x c e, fun p hp => absurd (show p ∈ ([] : List (Addr × Obj)) ++ [] from hp) (by simp)⟩
  have loop : codeAny (model X.prog X.w) X.A (.compLoop (.ListComp elt [⟨tg, iter, ifs, 0⟩] scope pos) 0 (.ref it) (.ref D) cv) (compPost (model X.prog X.w) X.A X.xe us Rf (.ref D) u3.heap.objs.size) u4 := by
    refine compLoop_any (fun n r' => ∃ i G', Inv (X.blk u3 G3 scope cv fq) [] (wipe σ (ow.map (·.2))) G' r' ∧ tm i r'.heap ∧ (∀ b ∈ fq, G' b = none) ∧ W i n G') ?_ mm ⟨0, G3, K4, t4, nfq, z0⟩
    rintro n u5 ⟨i, G5, K5, t5, o5, z5⟩
    rcases trn i n G5 z5 with ⟨stop, qq⟩ | ⟨go, Nx, hNx, step⟩
    · have dd := T.done (X.blk u3 G3 scope cv fq) rfl rfl rfl hc i [] u5 _ G5 (fun _ _ => False) K5 (sta K5 o5) t5 stop
      refine thnF dd fun r u6 ⟨hr, K6⟩ => ?_
      subst hr
      -- back in the def's context
      have K7 : Inv X pins σ G5 u6 := K3.call' (ch := fq) K6.os K6.base K6.hok K6.bare fun b hb => ⟨(fo3 b hb).1.2.2.2.1, (fo3 b hb).1.2.1, (fo3 b hb).1.2.2.2.2.1, (fo3 b hb).1.2.2.2.2.2⟩
      have nC : G5 u3.heap.objs.size = none := by
        have z : G5 cv.locals = none := K6.free
        rw [cvL] at z
        exact z
      obtain ⟨m, hn, _⟩ := K6.loc
      have hn : u6.heap.Ns cv.locals m := hn
      rw [cvL] at hn
      exact hend D u3.heap.objs.size u6 m G5 K7 qq hn (K3.fpOk (Nat.le_refl _) nC)
    · have di := T.item (X.blk u3 G3 scope cv fq) rfl rfl rfl hc i [] u5 _ G5 (fun _ _ => False) K5 (sta K5 o5) t5 go
      refine thnF di fun r u6 ⟨u, hr, h6⟩ => ?_
      subst hr
      refine thnF h6 fun _ u7 ⟨x, G7, K7, r7, y7, t7, o7⟩ => ?_
      have K7' := K7.pinned (sta K7 o7) (T.obj _ _ t7)
      refine thnF (rg.run _ u7 _ G7 x u _ K7' r7 (step x G7 y7)) fun _ u8 ⟨τ8, G8, K8, hv8, p8⟩ => ?_
      refine thnF (rt.run _ u8 τ8 G8 _ K8 p8) fun b u9 ⟨G9, K9, p9⟩ => ?_
      -- the turn's end
      have fin_ : ∀ {r' : Shared} {G' : Hp}, Inv (X.blk u3 G3 scope cv fq) ([] ++ pinsAt fq u7.heap) τ8 G' r' → Nx G' → ∃ m, m < n ∧ ∃ i G', Inv (X.blk u3 G3 scope cv fq) [] (wipe σ (ow.map (·.2))) G' r' ∧ tm i r'.heap ∧ (∀ b ∈ fq, G' b = none) ∧ W i m G' := fun {r' G'} J' nx => by
        obtain ⟨m2, hm, w2⟩ := hNx G' nx
        have pn' : ∀ b ∈ fq, ∀ o, u7.heap.get? b = some o → r'.heap.get? b = some o ∧ G' b = none := fun b hb o e =>
          let z := J'.pin (b, o) (List.mem_append_right _ (List.mem_append_right _ (mem_pinsAt hb e)))
          ⟨z.1, z.2.1⟩
        have hl : (wipe σ (ow.map (·.2))).length = τ8.length := by rw [← hv8, wipe_length]
        refine ⟨m2, hm, i + 1, G', (J'.unpinned (pins := [])).weak hl (fun j v e => ?_), T.keep _ _ _ t7 fun b hb o e => (pn' b hb o e).1, fun b hb => ?_, w2⟩
        · rw [← hv8] at e
          exact (wipe_some e).1
        · obtain ⟨o, e, _⟩ := T.obj _ _ t7 b hb
          exact (pn' b hb o e).2
      cases b with
      | false =>
        simp only [Bool.false_eq_true, if_false] at p9 ⊢
        exact fin_ K9 p9
      | true =>
        simp only [if_true] at p9 ⊢
        refine wpAny_mono (re.run _ u9 τ8 G9 _ (K9.wish _) p9) (fun z u10 ⟨yv, G10, K10, r10, acc, hD10, hz10, nx⟩ => ?_) fun x6 r6 x7 => blk_exit hsk hfm hxF K3 (fun b hb => (fo3 b hb).1) cvL cvF x7
        exact app_ok (X := X.blk u3 G3 scope cv fq) K10.unwish hD10 hz10 r10 fun u11 K11_ => fin_ K11_ nx
  exact codeAny_compStart_list loop (T.self X.A 0 _ _ _ t4 loop)
theorem pe_lcX {E : XK} {elt tg iter : Expr} {ifs : List Expr} {scope : Scope} {own : List (Str × Nat)} {pos : Pos} {wi : TI} {g : TG} {tt : TT} {te : TE} (hsk : X.stack = X.env :: X.outer) (hfm : X.env.frame = some X.env.locals) (hxF : ∀ u s', XF X E u s' → X.xe u s') (hc : X.calm = true) (hN : X.N.Nodup) (hi : PI X tg iter wi) (ok : BlkOk X.N X.env.scope scope own)
    (hg : ∀ (s : Shared) (H : Hp) (C : Addr) (cl : List (Str × Addr)) (fp : List Addr), PG (X.blk s H scope (compEnvC scope cl C X.env) fp) tg g) (ht : ∀ (s : Shared) (H : Hp) (C : Addr) (cl : List (Str × Addr)) (fp : List Addr), PTs (X.blk s H scope (compEnvC scope cl C X.env) fp) ifs tt)
    (he : ∀ (s : Shared) (H : Hp) (C : Addr) (cl : List (Str × Addr)) (fp : List Addr), PE ((X.blk s H scope (compEnvC scope cl C X.env) fp).wish (blkXe X s H scope (compEnvC scope cl C X.env) fp E)) elt te) (hs : ∀ x, foldedSetIterable iter X.env x = pure x := by intro _; rfl) :
    PE X (.ListComp elt [⟨tg, iter, ifs, 0⟩] scope pos) (tLc wi g tt te (own.map (·.2))) := by
  refine ⟨fun pins s σ H Q I h => ?_⟩
  rw [eval_ListComp]
  refine lcx_core hsk hfm hxF hc hN I hi ok hg ht he hs h fun L C z m H1 I1 q hn f => ⟨m, hn, fun h2 sb => ?_⟩
  obtain ⟨f0, f1, f2, f3, f4, f5⟩ := f
  exact ⟨.ref L, H1, I1.turned (t' := z.toks) (fun b o hb e => (sb.2 b hb).trans e) f0 f1 f3 f4 f5, rfl, q⟩
theorem ps_setLcX {E : XK} {i : Nat} {y : Str} {py : Pos} {elt tg iter : Expr} {ifs : List Expr} {scope : Scope} {ow : List (Str × Nat)} {pos spos : Pos} {wj : TI} {g : TG} {tt : TT} {te : TE} (hsk : X.stack = X.env :: X.outer) (hfm : X.env.frame = some X.env.locals) (hxF : ∀ u s', XF X E u s' → X.xe u s') (hc : X.calm = true) (hN : X.N.Nodup) (hy : X.N[i]? = some y) (hyl : X.env.scope.names.lookup y = some .local)
    (hsw : swapsWith (.ListComp elt [⟨tg, iter, ifs, 0⟩] scope pos) (some (.Name y py)) spos.line X.env = pure true) (hi : PI X tg iter wj) (ok : BlkOk X.N X.env.scope scope ow)
    (hg : ∀ (s : Shared) (G : Hp) (Cq : Addr) (cl : List (Str × Addr)) (fp : List Addr), PG (X.blk s G scope (compEnvC scope cl Cq X.env) fp) tg g) (ht : ∀ (s : Shared) (G : Hp) (Cq : Addr) (cl : List (Str × Addr)) (fp : List Addr), PTs (X.blk s G scope (compEnvC scope cl Cq X.env) fp) ifs tt)
    (he : ∀ (s : Shared) (G : Hp) (Cq : Addr) (cl : List (Str × Addr)) (fp : List Addr), PE ((X.blk s G scope (compEnvC scope cl Cq X.env) fp).wish (blkXe X s G scope (compEnvC scope cl Cq X.env) fp E)) elt te) (hs : ∀ x, foldedSetIterable iter X.env x = pure x := by intro _; rfl) :
    PS X (.Assign [.Name y py] (.ListComp elt [⟨tg, iter, ifs, 0⟩] scope pos) spos) (tAsg (tLc wj g tt te (ow.map (·.2))) (gName i)) := by
  refine ⟨fun pins s σ G Dn K0 h => ?_⟩
  rw [exec_Assign_Name_used _ _ _ _ hsw]
  refine wpAny_bind (wpAny_standAt (wpAny_bind ?_))
  show wpAny _ X.A (do let _ ← comprehension (.ListComp elt [⟨tg, iter, ifs, 0⟩] scope pos) scope X.env (firstIterPos [⟨tg, iter, ifs, 0⟩] pos) (newList []) false (eval iter X.env) (some (assign (.Name y py) X.env))) _ _ s
  have h : tLc wj g tt te (ow.map (·.2)) σ G (fun x H1 => gName i x σ H1 Dn.nx) := h
  refine wpAny_bind (thn (lcx_core (Rf := fun _ w1 => SP X pins Dn .next w1) hsk hfm hxF hc hN K0 hi ok hg ht he hs h fun Lq Cq w1 mm G1 K1 qq nn ff => ?_) fun _ w1 hq => wpAny_pure (wpAny_pure hq))
  show wpAny _ _ (assign (.Name y py) X.env (.ref Lq)) _ _ _
  refine wpAny_assign_Name (store_ok2 (v := V.ref Lq) K1 hN hy (.inl hyl) rfl (fun w2 K2 ⟨a, sq, ha⟩ => ?_) (.inr hyl))
  obtain ⟨f0, f1, f2, f3, f4, f5⟩ := ff
  have haC : Cq ≠ a := by
    rcases ha with z | z
    · rw [z]; exact f1
    · exact fun e => f4 y a z e.symm
  refine ⟨mm, nn.sameBut sq haC, fun k3 sq3 => ?_⟩
  exact ⟨_, G1, K2.turned (t' := w2.toks) (fun b o hb e => (sq3.2 b hb).trans e) f0 f1 f3 f4 f5, qq⟩
end
end K11
/-! K11U: several except clauses, each with a name. -/
namespace K11
open PySem PySem.Spec PyProof.Rows
open L2
def wManyA (K : PySem.W.Frag) (Wout : WX) (D : Ends) : List (Value × Nat × (Addr → Value → Option Addr → TS)) → WX
  | [] => Wout
  | (c, i, ts) :: r => fun cls d σ H => ∃ b, PySem.W.exmOne K cls c = some b ∧
      (b = true → ∀ a, H a = none → ts a cls d { nx := fun σ1 H1 => D.nx (σ1.set i none) H1, rt := D.rt, bk := fun σ1 H1 => D.bk (σ1.set i none) H1, ct := fun σ1 H1 => D.ct (σ1.set i none) H1 } (σ.set i (some (.ref a))) H) ∧ (b = false → wManyA K Wout D r cls d σ H)
inductive HdsA (X : Cx) : List ExceptHandler → List (Value × Nat × (Addr → Value → Option Addr → TS)) → Prop
  | nil : HdsA X [] []
  | cons {x n : Str} {c : Value} {i : Nat} {ts : Addr → Value → Option Addr → TS} {b₀ : Stmt} {suite : List Stmt} {np pos' : Pos} {hds : List ExceptHandler} {l : List (Value × Nat × (Addr → Value → Option Addr → TS))} (hi : X.N[i]? = some n) (hln : X.env.kindOf n = some .local) (hc : Names X x c)
      (hsu : ∀ (a : Addr) (oe : Obj) (cls : Value) (d : Option Addr) (pn : List (Addr × Obj)), Zc cls d oe → (∃ vs, oe.data = .fields vs) → PSs (X.suite a ((a, oe) :: pn)) (b₀ :: suite) (ts a cls d)) (r : HdsA X hds l) :
      HdsA X (.ExceptHandler (some (.Name x np)) (some n) (b₀ :: suite) pos' :: hds) ((c, i, ts) :: l)
section
variable {X : Cx} {body : List Stmt} {h₀ : ExceptHandler} {hds : List ExceptHandler} {l : List (Value × Nat × (Addr → Value → Option Addr → TS))} {pos : Pos} {tb : WX → TS} {Wout : WX}
theorem ps_try_manyA (hs : X.stack = X.env :: X.outer) (hf : X.env.frame = some X.env.locals) (hN : X.N.Nodup) (tk : Takes X Wout)
    (hb : ∀ (W : WX) (pn : List (Addr × Obj)) (xe : Value → Shared → Prop), Takes (X.tr pn xe) W → PassesOwn (model X.prog X.w) X.A X.env xe → PSs (X.tr pn xe) body (tb W))
    (hh : HdsA X (h₀ :: hds) l) : PS X (.Try body (h₀ :: hds) [] [] pos) (fun D σ H => tb (wManyA X.K Wout D l) D σ H) := by
  refine ⟨fun pins s σ H D I h => ?_⟩
  have okX := I.ok
  have hfA : X.A.frames = some (X.env :: X.outer) := by rw [okX.frames, hs]
  refine wpAny_Try_except ?_
  refine wpAny_mono ((hb (wManyA X.K Wout D l) (X.pn ++ pins) (fun e s₁ => wpAny (model X.prog X.w) X.A (noteFrame e X.env) (fun _ s₂ => wpAny (model X.prog X.w) X.A (setFlight e none) (fun _ s₃ =>
    wpAny (model X.prog X.w) X.A (handleBy e X.env (h₀ :: hds)) (SP X pins D) X.xe s₃) X.xe s₂) X.xe s₁) (fun u s' y0 => ?_) PassesOwn.looking).run [] s σ H D (I.toTry _) h) (fun f s1 out => ?_) (fun e s1 he => he)
  · -- the catch
    obtain ⟨a, B, s0, pins', σ', H', cls, d, rfl, J1, gnd, us, sk, na, oe_, gb, w⟩ := y0
    have J0 : Inv X pins σ' H' s0 := J1.ofTry okX
    have sk' : Sky B (X.env :: X.outer) a (Zc cls d) X.env.locals s'.heap := by rw [← hs]; exact sk
    show wpAny (model X.prog X.w) X.A (noteFrame (.ref a) X.env) _ _ _
    refine Sky.land Zc.steady hfA hf sk' fun k3 f3 u3 => ?_
    have I3 : Inv X pins σ' H' { s' with heap := k3 } := J0.landed gnd f3.1 (us.trans u3) oe_ gb
    obtain ⟨o3, v3, e3, z3, d3⟩ := f3.there
    have notF : ∀ {h : Heap} {o : Obj} {vs : Array Value}, h.FunFrames B (X.env :: X.outer) → h.get? a = some o → o.data = .fields vs → a ∉ frs (X.env :: X.outer) := fun {h o vs} ff e dd hm => by
      obtain ⟨_, o', e', hnf⟩ := ff.mem hm
      rw [e] at e'; cases e'
      exact hnf _ dd
    have nfa := notF f3.2.2.1 e3 d3
    have nloc : a ≠ X.env.locals := fun z => nfa (List.mem_filterMap.mpr ⟨X.env, List.mem_cons_self, by rw [hf, z]⟩)
    have nout : a ∉ X.fs := fun hm => by
      obtain ⟨e, he, q⟩ := List.mem_filterMap.mp hm
      exact nfa (List.mem_filterMap.mpr ⟨e, List.mem_cons_of_mem _ he, q⟩)
    have T3 := I3.suite e3 d3 na nloc nout
    have run_ : ∀ {hd' : List ExceptHandler} {m' : List (Value × Nat × (Addr → Value → Option Addr → TS))}, HdsA X hd' m' → wManyA X.K Wout D m' cls d σ' H' →
        wpAny (model X.prog X.w) X.A (handleBy (.ref a) X.env hd') (SP X pins D) X.xe { s' with heap := k3 } := by
      intro hd' m' hok_
      induction hok_ with
      | nil =>
        intro w
        refine wpAny_handleBy_nil ?_
        obtain ⟨_, _, _, oe, vs, T, oT, ts', he, hz, hd, h1, hr⟩ := id f3
        unfold PySem.passOn
        refine wpAny_bind (wpAny_field he hd h1 ?_)
        rw [if_neg (show ¬ ((Value.ref T == Value.none) = true) from by simp)]
        have fly : wpAny (model X.prog X.w) X.A (setFlight (.ref a) X.env.frame) (fun _ s4 => wpAny (model X.prog X.w) X.A (throw (.ref a) : Sem Flow) (SP X pins D) X.xe s4) X.xe { s' with heap := k3 } := by
          rw [hf]
          refine HandSPX.setFlight_upZ f3 fun k4 hk4 u4 => wpAny_throw (tk _ _ ?_)
          exact ⟨a, B, s0, pins, σ', H', cls, d, rfl, J0, gnd, (us.trans u3).trans u4, .inr (.inr (by rw [hs]; exact hk4)), na, oe_, gb, w⟩
        first
          | exact wpAny_bind (wpAny_pure (wpAny_bind fly))
          | exact wpAny_bind fly
      | @cons x n c i ts b₀ suite np pos' hdr lr hi hln hc hsu r rec_ =>
        have hloc : Loc X.env.scope n := .inl hln
        intro w
        obtain ⟨b, w1, wy, wn⟩ := w
        refine wpAny_handleBy_cons (codeAny_handlers_test ?_) (by intro q; cases q)
        have LK : PySem.W.Looks (model X.prog X.w) k3 (typeOf (.ref a)) cls := fun A Q E s k q => wpAny_typeOf_ref (k _ _ e3) (by rw [z3.1]; exact q)
        have LQ := PySem.W.exm_one (M := model X.prog X.w) (I3.kIn) LK w1
        have tst : ∀ {Q : Value → Shared → Prop} {E : Value → Shared → Prop}, Q c { s' with heap := k3 } → wpAny (model X.prog X.w) (X.A.mark (some (.ref a))) (eval (.Name x np) X.env) Q E { s' with heap := k3 } := fun {Q E} q => by
          obtain ⟨hg, hdbg, hm | ⟨hm, hv, hnn⟩⟩ := hc
          · exact ld_glob (X := X.suite a ((a, o3) :: (X.pn ++ pins))) T3 hg hm q hdbg
          · exact ld_blt (X := X.suite a ((a, o3) :: (X.pn ++ pins))) T3 hg hm hv q hnn hdbg
        refine tst (LQ.here ?_)
        cases b with
        | true =>
          refine codeAny_handlers_suite_as ?_
          refine HandSPX.lands_againZ f3 fun k4 f4 u4 => ?_
          have I4 : Inv X pins σ' H' { s' with heap := k4 } := J0.landed gnd f4.1 ((us.trans u3).trans u4) oe_ gb
          obtain ⟨o4, v4, e4, z4, d4⟩ := f4.there
          have T4 := I4.suite e4 d4 na nloc nout
          refine store_ok (X := X.suite a ((a, o4) :: (X.pn ++ pins))) (v := .ref a) T4 hN hi hloc rfl (fun r5 T5 => ?_) (.inr hln)
          refine wpAny_mono ((hsu a o4 cls d (X.pn ++ pins) z4 ⟨_, d4⟩).run [] r5 _ H' _ T5 (wy rfl a na)) (fun f r6 out => ?_) (fun _ _ z => False.elim z)
          have back : ∀ {τ6 : L2.St} {G6 : Hp} {Q : Shared → Prop}, Inv (X.suite a ((a, o4) :: (X.pn ++ pins))) [] τ6 G6 r6 → (∀ r7, Inv X pins (τ6.set i none) G6 r7 → Q r7) →
              wpAny (model X.prog X.w) X.A (do bindName X.env n .none; unbindBehindTheSuite X.env n pos') (fun _ r7 => Q r7) X.xe r6 := fun {τ6 G6 Q} T6 hq => gone_ok (T6.unsuite okX) hN hi hln hq
          cases f with
          | next =>
            obtain ⟨τ6, G6, T6, p6⟩ := out
            exact back T6 fun r7 I7 => ⟨_, _, I7, p6⟩
          | brk =>
            obtain ⟨τ6, G6, T6, p6⟩ := out
            exact back T6 fun r7 I7 => ⟨_, _, I7, p6⟩
          | cont =>
            obtain ⟨τ6, G6, T6, p6⟩ := out
            exact back T6 fun r7 I7 => ⟨_, _, I7, p6⟩
          | ret u =>
            obtain ⟨x6, τ6, G6, T6, rv6, p6⟩ := out
            exact back T6 fun r7 I7 => ⟨_, _, _, I7, rv6, p6⟩
        | false =>
          show wpAny _ X.A (handleBy (.ref a) X.env hdr) _ _ _
          exact rec_ (wn rfl)
    exact run_ hh w
  · cases f with
    | next =>
      obtain ⟨σ', H', J1, q⟩ := out
      exact wpAny_execs_nil ⟨σ', H', J1.ofTry okX, q⟩
    | brk =>
      obtain ⟨σ', H', J1, q⟩ := out
      exact ⟨σ', H', J1.ofTry okX, q⟩
    | cont =>
      obtain ⟨σ', H', J1, q⟩ := out
      exact ⟨σ', H', J1.ofTry okX, q⟩
    | ret u =>
      obtain ⟨v, σ', H', J1, r, q⟩ := out
      exact ⟨v, σ', H', J1.ofTry okX, r, q⟩
end
end K11
/-! K11V: a lambda with one default, handed to a def that calls it. -/
namespace K11
open PySem PySem.Spec PySem.W PySem.Calls PyProof.Rows
abbrev lmFn (name qual : Str) (params : Arguments) (body : Expr) (scope : Scope) (cl : List (Str × Addr)) (pm cdv ct dv : Value) : FuncData :=
  { name, qualname := qual, params, body := .expr body, scope, globals := mainGlobals, closure := cl, defaults := dv, kwdefaults := .none, doc := .none, pyModule := pm, annotations := none, code := cdv, closureTuple := ct, builtins := builtinsNs }
abbrev lmObj (name qual : Str) (params : Arguments) (body : Expr) (scope : Scope) (clos : List (Str × Addr)) (pm : Value) (c' : Addr) (ctv dv : Value) : Obj :=
  { cls := .type "function", data := .func (lmFn name qual params body scope clos pm (.ref c') ctv dv) }
section
variable {M : Model} {A : Around} {E : Value → Shared → Prop} {s : Shared} {name qual : Str} {params : Arguments} {body : Expr} {scope : Scope} {env : Env} {c P : Addr} {ps : Array Value} {pos : Pos} {firstLine : Nat} {mg : Str → Option Value}
  {clos : List (Str × Addr)} {Q : Value → Shared → Prop} {dv : Value}
theorem lmd_tail (hclo : closureFor scope env = pure clos) (hglo : env.globals = mainGlobals) (hg : s.heap.Ns mainGlobals mg) (hcode : env.code = .ref c) (C : CodeHd s.heap c P) (hPt : s.heap.get? P = some (tabObj ps)) (htr : TriplesOk ps.toList)
    (hnew : codeAmong pos ps.toList = none) (hgPn : mainGlobals ≠ P) (hbu : s.heap.BuiltinsAt mg P)
    (h : ∀ c' ctv k' tq, Heap.ExtBut P s.heap k' → s.heap.objs.size ≤ c' → c' < k'.objs.size → k'.CodeRec (.ref c') qual → k'.get? P = some (tabObj (ps ++ #[rawInt pos.line, rawInt pos.col, .ref c'])) →
      Q (.ref k'.objs.size) { s with heap := k'.push (lmObj name qual params body scope clos ((mg "__name__").getD .none) c' ctv dv), toks := tq }) :
    wpAny M A (makeTail name qual params (.expr body) scope env dv .none none pos firstLine) Q E s := by
  obtain ⟨bq, oq, hq1, hq0, _, hqP, hqo, hqc, hqd, hqx⟩ := hbu
  unfold makeTail
  rw [hclo, hglo]
  refine wpAny_bind (wpAny_pure ?_)
  cases clos with
  | nil =>
    simp only [List.isEmpty_nil, if_true]
    refine wpAny_bind (wpAny_pure ?_)
    refine wpAny_bind (wpAny_functionCodeX hcode (C.code hPt htr) (C.tab hPt) hnew fun c' k' tq kx kge klt _ krec ktb _ => ?_)
    have kg' := hg.extBut kx hgPn
    refine wpAny_bind (wpAny_builtinsFor kg' hq1 hq0 (kx _ _ hqP hqo) hqc hqd hqx ?_)
    refine wpAny_bind (wpAny_nsGet kg' ?_)
    exact wpAny_bind (wpAny_pure (wpAny_newObj_type (h c' .none k' tq kx kge klt krec ktb.2) (by size_fits)))
  | cons z zz =>
    simp only [List.isEmpty_cons, Bool.false_eq_true, if_false]
    refine wpAny_bind (wpAny_newTextTuple ?_)
    refine wpAny_bind (wpAny_functionCodeX hcode ((C.keeps fun b o e => Heap.get?_push_of_some _ e).code (Heap.get?_push_of_some _ hPt) htr) ((C.keeps fun b o e => Heap.get?_push_of_some _ e).tab (Heap.get?_push_of_some _ hPt)) hnew fun c' k' tq kx kge klt _ krec ktb _ => ?_)
    have kg' := (hg.push _).extBut kx hgPn
    have kx' : Heap.ExtBut P s.heap k' := fun b o hb' e => kx b o hb' (Heap.get?_push_of_some _ e)
    have kge' : s.heap.objs.size ≤ c' := Nat.le_trans (by rw [Heap.size_push]; omega) kge
    refine wpAny_bind (wpAny_builtinsFor kg' hq1 hq0 (kx' _ _ hqP hqo) hqc hqd hqx ?_)
    refine wpAny_bind (wpAny_nsGet kg' ?_)
    exact wpAny_bind (wpAny_pure (wpAny_newObj_type (h c' _ k' tq kx' kge' klt krec ktb.2) (by size_fits)))
theorem lmd_tailHit {cv : Value} (hclo : closureFor scope env = pure clos) (hglo : env.globals = mainGlobals) (hg : s.heap.Ns mainGlobals mg) (hcode : env.code = .ref c) (C : CodeHd s.heap c P) (hPt : s.heap.get? P = some (tabObj ps)) (htr : TriplesOk ps.toList)
    (hfd : codeAmong pos ps.toList = some cv) (hbu : s.heap.BuiltinsAt mg P)
    (h : ∀ (ctv : Value) (k' : Heap) (tq : Tok), (∀ b o, s.heap.get? b = some o → k'.get? b = some o) → s.heap.objs.size ≤ k'.objs.size →
      Q (.ref k'.objs.size) { s with heap := k'.push { cls := .type "function", data := .func (lmFn name qual params body scope clos ((mg "__name__").getD .none) cv ctv dv) }, toks := tq }) :
    wpAny M A (makeTail name qual params (.expr body) scope env dv .none none pos firstLine) Q E s := by
  obtain ⟨bq, oq, hq1, hq0, _, hqP, hqo, hqc, hqd, hqx⟩ := hbu
  unfold makeTail
  rw [hclo, hglo]
  refine wpAny_bind (wpAny_pure ?_)
  cases clos with
  | nil =>
    simp only [List.isEmpty_nil, if_true]
    refine wpAny_bind (wpAny_pure ?_)
    refine wpAny_bind (wpAny_functionCode_hit hcode (C.code hPt htr) hfd ?_)
    refine wpAny_bind (wpAny_builtinsFor hg hq1 hq0 hqo hqc hqd hqx ?_)
    refine wpAny_bind (wpAny_nsGet hg ?_)
    exact wpAny_bind (wpAny_pure (wpAny_newObj_type (h .none s.heap s.toks (fun _ _ e => e) (Nat.le_refl _)) (by size_fits)))
  | cons z zz =>
    simp only [List.isEmpty_cons, Bool.false_eq_true, if_false]
    refine wpAny_bind (wpAny_newTextTuple ?_)
    refine wpAny_bind (wpAny_functionCode_hit hcode ((C.keeps fun b o e => Heap.get?_push_of_some _ e).code (Heap.get?_push_of_some _ hPt) htr) hfd ?_)
    refine wpAny_bind (wpAny_builtinsFor (hg.push _) hq1 hq0 (Heap.get?_push_of_some _ hqo) hqc hqd hqx ?_)
    refine wpAny_bind (wpAny_nsGet (hg.push _) ?_)
    have ksz : ∀ oo : Obj, s.heap.objs.size ≤ (s.heap.push oo).objs.size := fun oo => by rw [Heap.size_push]; omega
    exact wpAny_bind (wpAny_pure (wpAny_newObj_type (h _ _ s.toks (fun b o e => Heap.get?_push_of_some _ e) (ksz _)) (by size_fits)))
end
end K11
namespace K11
open PySem PySem.Spec PyProof.Rows
open L2
section
variable {X : Cx} {pins : List (Addr × Obj)} {σ : L2.St} {H : Hp} {s : Shared}
/-- all but the table at P stays -/
def ExtP (P : Addr) (H H' : Hp) : Prop := ∀ b o, H b = some o → b ≠ P → H' b = some o
theorem lmd_make0 {T : List (Addr × Str)} {c P : Addr} {dv : Value} {params : Arguments} {body : Expr} {scope : Scope} {pos : Pos} {E : Value → Shared → Prop} {Q : Value → Shared → Prop} (I : Inv X pins σ H s) (TB : LamX.TabB X.base X.mg c P) (hcode : X.env.code = .ref c)
    (hm : (P, X.env.qual ++ "<lambda>") ∈ T) (hu : ∀ p ∈ T, p.1 = P → p.2 = X.env.qual ++ "<lambda>") (hT : LamX.Tabs T H) (hfree : ∀ y ∈ scope.names, y.2 = .free → ∃ c, X.env.cells.lookup y.1 = some c)
    (h : ∀ (f c' : Addr) (pm ctv : Value) (H1 : Hp) (s' : Shared), Inv X pins σ H1 s' → ExtP P H H1 → LamX.Tabs T H1 → (∀ b o, s.heap.get? b = some o → b ≠ P → s'.heap.get? b = some o) → (∀ b, b < s.heap.objs.size → H b = none → H1 b = none) →
      s'.heap.get? f = some (lmObj "<lambda>" (X.env.qual ++ "<lambda>") params body scope (cloFrom X.env.cells scope.names []) pm c' ctv dv) → H1 f = none → f ∉ frs X.stack → H1 c' = some (LamX.CodeO c' (X.env.qual ++ "<lambda>")) → Q (.ref f) s') :
    wpAny (model X.prog X.w) X.A (makeTail "<lambda>" (X.env.qual ++ "<lambda>") params (.expr body) scope X.env dv .none none pos pos.line) Q E s := by
  obtain ⟨ps, hP, ht, ham⟩ := hT _ hm
  have bPp : s.heap.BuiltinsAt X.mg P := TB.bm.keeps I.bk
  have hPp : s.heap.get? P = some { cls := .none, data := .fields ps } := I.hok P _ hP
  have nPc : ∀ {b : Addr} {q : Str}, H b = some (LamX.CodeO b q) → b ≠ P := fun {b q} e z => by
    rw [z, hP] at e
    cases e
  have nofrm : ∀ f, s.heap.objs.size ≤ f → f ∉ frs X.stack := fun f hf z => by
    rcases List.mem_cons.mp (I.stkSub _ z) with e | e
    · have h1 := I.lt
      rw [← e] at h1
      exact Nat.lt_irrefl _ (Nat.lt_of_lt_of_le h1 hf)
    · exact I.nofs hf e
  cases hc : codeAmong pos ps.toList with
  | none =>
    refine lmd_tail (mg := X.mg) (c := c) (P := P) (ps := ps) (closure_ok hfree) I.ok.glob (I.mod.glob.keeps I.bk) hcode (TB.code.keeps I.bk) hPp ht hc TB.gP bPp fun c' ctv h' tk hx hge hlt hrec htb => ?_
    obtain ⟨c2, oc, ws, t, e2, hoc, hd, hv⟩ := hrec
    cases e2
    have hsz2 : s.heap.objs.size ≤ h'.objs.size := Nat.le_trans hge (Nat.le_of_lt hlt)
    have nCc : H c' = none := I.hok.fresh hge
    have J1 := LamX.inv_table (t' := tk) (more := #[rawInt pos.line, rawInt pos.col, .ref c']) (h' := h'.push (lmObj "<lambda>" (X.env.qual ++ "<lambda>") params body scope (cloFrom X.env.cells scope.names []) ((X.mg "__name__").getD .none) c' ctv dv)) I hP
      (fun b o hb e => Heap.get?_push_of_some _ (hx b o hb e)) (Heap.get?_push_of_some _ htb) hge ⟨oc, ws, t, Heap.get?_push_of_some _ hoc, hd, hv⟩
    have hEx : ExtP P H (upd (upd H P (.tbl (ps ++ #[rawInt pos.line, rawInt pos.col, .ref c']))) c' (LamX.CodeO c' (X.env.qual ++ "<lambda>"))) := fun b o e n => by
      rw [upd_ne (ne_of_none e nCc), upd_ne n]
      exact e
    have eLs : (ps ++ #[rawInt pos.line, rawInt pos.col, .ref c']).toList = ps.toList ++ [rawInt pos.line, rawInt pos.col, .ref c'] := by simp
    refine h h'.objs.size c' ((X.mg "__name__").getD .none) ctv _ _ J1 hEx (fun p hp => ?_) (fun b o e hb => Heap.get?_push_of_some _ (hx b o hb e)) (fun b hb n => by rw [upd_ne (Nat.ne_of_lt (Nat.lt_of_lt_of_le hb hge)), upd_ne (fun z => by rw [z, hP] at n; cases n)]; exact n) (Heap.get?_push_size _ rfl) ?_ (nofrm _ hsz2) upd_same
    · by_cases hb : p.1 = P
      · rw [hu p hp hb, hb]
        refine ⟨_, by rw [upd_ne (ne_of_none hP nCc), upd_same], by rw [eLs]; exact PySem.TriplesOk_snoc _ _ _ _ ht, fun p' cv hcv => ?_⟩
        rw [eLs] at hcv
        rcases LamX.among_app _ ht hcv with z | z
        · obtain ⟨c0, e1, e2⟩ := ham p' cv z
          exact ⟨c0, e1, hEx _ _ e2 (nPc e2)⟩
        · exact ⟨c', z, upd_same⟩
      · obtain ⟨ps', a1, a2, a3⟩ := hT p hp
        refine ⟨ps', by rw [upd_ne (ne_of_none a1 nCc), upd_ne hb]; exact a1, a2, fun p' cv hcv => ?_⟩
        obtain ⟨c0, e1, e2⟩ := a3 p' cv hcv
        exact ⟨c0, e1, hEx _ _ e2 (nPc e2)⟩
    · have m1 : h'.objs.size ≠ c' := Nat.ne_of_gt hlt
      have m2 : h'.objs.size ≠ P := Nat.ne_of_gt (Nat.lt_of_lt_of_le (Heap.lt_size hPp) hsz2)
      rw [upd_ne m1, upd_ne m2]
      exact I.hok.fresh hsz2
  | some cv =>
    obtain ⟨c', e, hco⟩ := ham pos cv hc
    subst e
    refine lmd_tailHit (mg := X.mg) (c := c) (P := P) (ps := ps) (closure_ok hfree) I.ok.glob (I.mod.glob.keeps I.bk) hcode (TB.code.keeps I.bk) hPp ht hc bPp fun ctv h' tk hx hsz2 => ?_
    have J1 : Inv X pins σ H { s with heap := h'.push (lmObj "<lambda>" (X.env.qual ++ "<lambda>") params body scope (cloFrom X.env.cells scope.names []) ((X.mg "__name__").getD .none) c' ctv dv), toks := tk } := I.kept fun b o e => Heap.get?_push_of_some _ (hx b o e)
    exact h h'.objs.size c' ((X.mg "__name__").getD .none) ctv H _ J1 (fun _ _ e _ => e) hT (fun b o e _ => Heap.get?_push_of_some _ (hx b o e)) (fun _ _ n => n) (Heap.get?_push_size _ rfl) (I.hok.fresh hsz2) (nofrm _ hsz2) hco
/-- the lambda, its default a whole number, is made -/
theorem lmd_make {T : List (Addr × Str)} {c P : Addr} {params : Arguments} {body dx : Expr} {scope : Scope} {pos : Pos} {z : Int} {Q : Value → Shared → Prop} (I : Inv X pins σ H s) (TB : LamX.TabB X.base X.mg c P) (hcode : X.env.code = .ref c)
    (hm : (P, X.env.qual ++ "<lambda>") ∈ T) (hu : ∀ p ∈ T, p.1 = P → p.2 = X.env.qual ++ "<lambda>") (hT : LamX.Tabs T H) (hdef : defaultsOf params X.env = ([eval dx X.env], [])) (hdx : PE X dx (tC (.int z))) (hfree : ∀ y ∈ scope.names, y.2 = .free → ∃ c, X.env.cells.lookup y.1 = some c)
    (h : ∀ (f c' td : Addr) (tk : Tok) (pm ctv : Value) (H1 : Hp) (s' : Shared), Inv X pins σ H1 s' → ExtP P H H1 → LamX.Tabs T H1 → s'.heap.get? td = some { cls := .type "tuple", data := .seq #[.int z tk] } → H1 td = none → td ∉ frs X.stack →
      s'.heap.get? f = some (lmObj "<lambda>" (X.env.qual ++ "<lambda>") params body scope (cloFrom X.env.cells scope.names []) pm c' ctv (.ref td)) → H1 f = none → f ∉ frs X.stack → H1 c' = some (LamX.CodeO c' (X.env.qual ++ "<lambda>")) → Q (.ref f) s') :
    wpAny (model X.prog X.w) X.A (eval (.Lambda params body scope pos) X.env) Q X.xe s := by
  rw [arm_eval_Lambda, hdef]
  show wpAny _ _ (do let dv ← evalAll [eval dx X.env]; let kdv ← holding dv (evalAllOpt []); makeFunction "<lambda>" (X.env.qual ++ "<lambda>") params (.expr body) scope X.env dv kdv [] pos pos.line) _ _ _
  refine wpAny_bind ?_
  show wpAny _ _ (do let v ← eval dx X.env; return v :: (← holding [v] (evalAll []))) _ _ _
  refine wpAny_bind (thn (hdx.run pins s σ H (fun v H1 => v = .int z ∧ H1 = H) I ⟨rfl, rfl⟩) fun u s1 hh => ?_)
  obtain ⟨v, H1, I1, r1, e1, e2⟩ := hh
  subst e1
  subst e2
  obtain ⟨tk, rfl⟩ := r1
  refine wpAny_bind (wpAny_holding (wpAny_pure (wpAny_pure ?_)))
  refine wpAny_bind (wpAny_holding (wpAny_pure ?_))
  rw [makeFunction_eq]
  simp only [List.zip_nil_right, List.filterMap_nil, List.isEmpty_nil, List.isEmpty_cons, if_true, pure_bind, Bool.false_eq_true, if_false]
  refine wpAny_bind (wpAny_newTextTuple ?_)
  have I2 : Inv X pins σ H1 { s1 with heap := s1.heap.push { cls := .type "tuple", data := .seq ([Value.int z tk]).toArray } } := I1.kept (t' := s1.toks) fun b o e => Heap.get?_push_of_some _ e
  have nfr : s1.heap.objs.size ∉ frs X.stack := fun hz => by
    rcases List.mem_cons.mp (I1.stkSub _ hz) with e | e
    · have q := I1.lt
      rw [← e] at q
      exact Nat.lt_irrefl _ q
    · exact I1.nofs (Nat.le_refl _) e
  obtain ⟨qs, hP, _, _⟩ := hT _ hm
  have hPp : s1.heap.get? P = some { cls := .none, data := .fields qs } := I1.hok P _ hP
  have sz : s1.heap.objs.size < (s1.heap.push { cls := .type "tuple", data := .seq ([Value.int z tk]).toArray }).objs.size := by
    rw [Heap.size_push]
    exact Nat.lt_succ_self _
  refine lmd_make0 I2 TB hcode hm hu hT hfree fun f c' pm ctv H3 s' I3 eN T3 kp kn hf hfn hfr hco => ?_
  exact h f c' s1.heap.objs.size tk pm ctv H3 s' I3 eN T3 (kp _ _ (Heap.get?_push_size _ rfl) (Nat.ne_of_gt (Heap.lt_size hPp))) (kn _ sz (I1.hok.fresh (Nat.le_refl _))) nfr hf hfn hfr hco
/-- the lambda without parameters is made -/
theorem lmn_make {T : List (Addr × Str)} {c P : Addr} {params : Arguments} {body : Expr} {scope : Scope} {pos : Pos} {Q : Value → Shared → Prop} (I : Inv X pins σ H s) (TB : LamX.TabB X.base X.mg c P) (hcode : X.env.code = .ref c)
    (hm : (P, X.env.qual ++ "<lambda>") ∈ T) (hu : ∀ p ∈ T, p.1 = P → p.2 = X.env.qual ++ "<lambda>") (hT : LamX.Tabs T H) (hdef : defaultsOf params X.env = ([], [])) (hfree : ∀ y ∈ scope.names, y.2 = .free → ∃ c, X.env.cells.lookup y.1 = some c)
    (h : ∀ (f c' : Addr) (pm ctv : Value) (H1 : Hp) (s' : Shared), Inv X pins σ H1 s' → ExtP P H H1 → LamX.Tabs T H1 →
      s'.heap.get? f = some (lmObj "<lambda>" (X.env.qual ++ "<lambda>") params body scope (cloFrom X.env.cells scope.names []) pm c' ctv .none) → H1 f = none → f ∉ frs X.stack → H1 c' = some (LamX.CodeO c' (X.env.qual ++ "<lambda>")) → Q (.ref f) s') :
    wpAny (model X.prog X.w) X.A (eval (.Lambda params body scope pos) X.env) Q X.xe s := by
  rw [arm_eval_Lambda, hdef]
  show wpAny _ _ (do let dv ← evalAll []; let kdv ← holding dv (evalAllOpt []); makeFunction "<lambda>" (X.env.qual ++ "<lambda>") params (.expr body) scope X.env dv kdv [] pos pos.line) _ _ _
  refine wpAny_bind (wpAny_pure ?_)
  refine wpAny_bind (wpAny_holding (wpAny_pure ?_))
  rw [makeFunction_eq]
  simp only [List.zip_nil_right, List.filterMap_nil, List.isEmpty_nil, List.isEmpty_cons, if_true, pure_bind, Bool.false_eq_true, if_false]
  exact lmd_make0 I TB hcode hm hu hT hfree fun f c' pm ctv H3 s' I3 eN T3 kp kn hf hfn hfr hco => h f c' pm ctv H3 s' I3 eN T3 hf hfn hfr hco
/-- names of the lambda: parameters that no slot names, captured ones, globals -/
structure LamD (N : List Str) (sc scope : Scope) : Prop where
  kind : scope.kind = .function
  co : scope.isCoroutine = false
  gen : scope.isGenerator = false
  cell : ∀ y ∈ scope.names, y.2 ≠ .cell
  loc : ∀ y ∈ scope.names, y.2 = .local → y.1 ∉ N
  free : ∀ y ∈ scope.names, y.2 = .free → sc.names.lookup y.1 = some .cell ∨ sc.names.lookup y.1 = some .free
def lamDB (N : List Str) (sc scope : Scope) : Bool :=
  decide (scope.kind = .function) && !scope.isCoroutine && !scope.isGenerator && scope.names.all fun y => !decide (y.2 = .cell) && (!decide (y.2 = .local) || !decide (y.1 ∈ N)) && (!decide (y.2 = .free) || decide (sc.names.lookup y.1 = some .cell) || decide (sc.names.lookup y.1 = some .free))
theorem lamD_by {N : List Str} {sc scope : Scope} (h : lamDB N sc scope = true) : LamD N sc scope := by
  unfold lamDB at h
  simp only [Bool.and_eq_true, Bool.or_eq_true, Bool.not_eq_true', decide_eq_true_eq, decide_eq_false_iff_not, List.all_eq_true] at h
  obtain ⟨⟨⟨h1, h2⟩, h3⟩, h4⟩ := h
  refine ⟨h1, h2, h3, fun y hy => (h4 y hy).1.1, fun y hy e => ?_, fun y hy e => ?_⟩
  · rcases (h4 y hy).1.2 with z | z
    · exact absurd e z
    · exact z
  · rcases (h4 y hy).2 with (z | z) | z
    · exact absurd e z
    · exact .inl z
    · exact .inr z
theorem LamD.has {X : Cx} {scope : Scope} (L : LamD X.N X.env.scope scope) (ok : X.Ok) : ∀ y ∈ scope.names, y.2 = .free → ∃ c, X.env.cells.lookup y.1 = some c := fun y hy e => by
  rcases L.free y hy e with k | k
  · exact ok.has _ (.inl k)
  · exact ok.has _ (.inr k)
end
section
variable {X : Cx} {pins : List (Addr × Obj)} {σ : L2.St} {H HZ : Hp} {s s1 : Shared}
theorem lmd_start {A : Around} {outer : List Env} {E : XK} {scope : Scope} {f c' : Addr} {h₁ : Heap} {tk : Nat} {bs : List (Str × Value)} (I : Inv X pins σ H s) (L : LamD X.N X.env.scope scope) (e0 : Env0 X.prog X.w X.K X.mg X.base A outer s1 HZ) (hd : A.handled = none)
    (un : Un (frs X.stack) [] H HZ s.heap s1.heap) (hns : h₁.Ns s1.heap.objs.size fun y => bs.reverse.lookup y) (kp : ∀ b o, s1.heap.get? b = some o → h₁.get? b = some o) :
    Inv (LamX.lamCx X A outer s1 HZ E scope f c') [] σ HZ { s1 with heap := h₁, toks := tk } := by
  have hfr0 := L.has I.ok
  have cmk : ∀ {y c}, (cloFrom X.env.cells scope.names []).lookup y = some c → X.env.cells.lookup y = some c := fun {y c} e => by
    rcases cloFrom_mem (PySem.mem_of_lookup e) with hmm | ⟨h1, h2⟩
    · cases hmm
    · obtain ⟨d1, hc⟩ := hfr0 _ h1 rfl
      have hc : X.env.cells.lookup y = some d1 := hc
      have e2 : c = d1 := by
        rw [h2, hc] <;> rfl
      rw [e2]
      exact hc
  have lok : ∀ {y}, scope.names.lookup y = some .free → ∃ c, (cloFrom X.env.cells scope.names []).lookup y = some c := fun {y} hl => by
    have hy : (y, NameKind.free) ∈ scope.names := PySem.mem_of_lookup hl
    exact mem_lookup (cloFrom_has (cells := X.env.cells) (acc := []) hy)
  have ckp : ∀ {c : Addr} {v : Option Value}, H c = none → s.heap.IsCell c v → h₁.IsCell c v := fun {c v} n ⟨o, ho, hd⟩ => by
    obtain ⟨sl, q⟩ := un.any ho n (by simp)
    exact ⟨_, kp _ _ q, hd⟩
  have nex : ∀ b : Addr, b ∉ (LamX.lamCx X A outer s1 HZ E scope f c').ex := fun b z => absurd (show b ∈ ([] : List Addr) from z) (by simp)
  refine ⟨⟨e0.mod, L.kind, rfl, rfl, Nat.le_refl _, fun y z c e1 e2 => I.ok.inj y z c (cmk e1) (cmk e2), fun y hy => ?_, fun y c z _ => ?_, fun _ => hd, Around.frames_deeper e0.frames, .inr ⟨rfl, rfl⟩, fun b z => absurd z (nex b), e0.bs, e0.bsz, fun b _ _ => nex b,
      fun b z => absurd z (nex b), e0.funs, e0.frf⟩,
    rfl, e0.bare, Un.kept kp, ⟨_, hns, fun i y v e1 e2 e3 => ?_⟩, fun y c e => ?_, e0.hok.fresh (Nat.le_refl _), fun y c e => ?_, fun q hq => absurd (show q ∈ ([] : List (Addr × Obj)) ++ [] from hq) (by simp), e0.hok.kept kp, I.len⟩
  · have hy : scope.names.lookup y = some .cell ∨ scope.names.lookup y = some .free := hy
    rcases hy with hy | hy
    · exact absurd rfl (L.cell _ (PySem.mem_of_lookup hy))
    · exact lok hy
  · have z : false = true := z
    cases z
  · have e3 : Vis scope y := e3
    rcases e3 with k | k | k
    · exact absurd (List.mem_of_getElem? e1) (L.loc _ (PySem.mem_of_lookup k) rfl)
    · exact absurd rfl (L.cell _ (PySem.mem_of_lookup k))
    · obtain ⟨m, hn, hl⟩ := I.loc
      have hvs : Vis X.env.scope y := (L.free _ (PySem.mem_of_lookup k) rfl).elim (fun k => .inr (.inl k)) (fun k => .inr (.inr k))
      obtain ⟨w2, r, q⟩ := hl i y v e1 e2 hvs
      obtain ⟨d2, h2⟩ := lok k
      refine ⟨w2, r, .inr ⟨.inr k, d2, h2, ?_⟩⟩
      have d1 := cmk h2
      rcases q with ⟨k', _⟩ | ⟨_, d3, e', z⟩
      · have k' : X.env.scope.names.lookup y = some .local := k'
        rcases L.free _ (PySem.mem_of_lookup k) rfl with k2 | k2 <;> rw [show X.env.scope.names.lookup y = _ from k2] at k' <;> cases k'
      · rw [d1] at e'
        cases e'
        exact ckp (I.freeC y _ d1) z
  · obtain ⟨w2, z⟩ := I.cell y c (cmk e)
    exact ⟨w2, ckp (I.freeC y c (cmk e)) z⟩
  · obtain ⟨v, o, ho, hd⟩ := I.cell y c (cmk e)
    exact un.free c o ho (I.freeC y c (cmk e)) (by simp)
theorem pe_actD {CXg : CXT} {Eg : XK} {Ng : List Str} {qg : Str} {sg : Scope} {g f c' : Addr} {cdg pm ctv : Value} {params : Arguments} {body : Expr} {scope : Scope} {k i : Nat} {a : Str} {pn : List (Addr × Obj)} {xe : Value → Shared → Prop} {W : WX} {E : XK} {tb : TE} {p1 p2 : Pos} {td : Addr} {zt : Value} {a0 : Str}
    (I : Inv X pins σ H s) (L : LamD X.N X.env.scope scope) (hl0 : scope.names.lookup a0 = some .local) (htd : s.heap.get? td = some { cls := .type "tuple", data := .seq #[zt] }) (htn : H td = none) (htr : td ∉ frs X.stack) (hf : s.heap.get? f = some (lmObj "<lambda>" (X.env.qual ++ "<lambda>") params body scope (cloFrom X.env.cells scope.names []) pm c' ctv (.ref td))) (hfn : H f = none) (hfr : f ∉ frs X.stack)
    (hbind : ∃ k, PySem.bindArgs (lmFn "<lambda>" (X.env.qual ++ "<lambda>") params body scope (cloFrom X.env.cells scope.names []) pm (.ref c') ctv (.ref td)) ⟨[], []⟩ = (seqItems? (.ref td) >>= k) ∧ k (some #[zt]) = pure [(a0, zt)])
    (tk : Takes ((cxOf CXg X.prog X.w X.K X.mg X.base Ng qg sg g cdg X.A X.stack s H Eg).tr pn xe) W) (hW : ∀ cls d σ' H', E cls d H' → W cls d σ' H') (hr : Room (k + 1) (X.A.deeper (envOfC qg sg s.heap.objs.size g cdg)))
    (hbody : ∀ (A : Around) (outer : List Env) (s : Shared) (H : Hp), Room k (A.deeper (LamX.lamEnv X scope s.heap.objs.size f c')) → PE (LamX.lamCx X A outer s H E scope f c') body tb)
    (hN : Ng[i]? = some a) (hv : Vis sg a) (hd : (a == ("__debug__" : Str)) = false := by decide) (hcd : (a == ("__classdict__" : Str)) = false := by decide) :
    PE ((cxOf CXg X.prog X.w X.K X.mg X.base Ng qg sg g cdg X.A X.stack s H Eg).tr pn xe) (.Call (.Name a p1) [] [] p2)
      (fun σZ HZ Q => σZ[i]? = some (some (.ref f)) ∧ HZ c' = some (LamX.CodeO c' (X.env.qual ++ "<lambda>")) ∧ tb σ HZ Q) := by
  refine ⟨fun pinsZ sZ σZ HZ Q IZ h => ?_⟩
  obtain ⟨hs, hc, ht⟩ := h
  refine wpAny_Call_Name_kw (thn ((pe_var (pos := p1) (i := i) hN hv hd hcd).run pinsZ sZ σZ HZ (fun v H1 => v = .ref f ∧ H1 = HZ) IZ ⟨.ref f, hs, rfl, rfl⟩) fun u s1 ⟨v, H1, I1, r1, q1⟩ => ?_)
  obtain ⟨ev, eH⟩ := q1
  subst ev
  rw [eH] at I1
  obtain rfl : u = Value.ref f := r1
  have of1 : s1.heap.get? f = some (lmObj "<lambda>" (X.env.qual ++ "<lambda>") params body scope (cloFrom X.env.cells scope.names []) pm c' ctv (.ref td)) := I1.base.keep f _ hf hfn hfr (fun z => nomatch (show f ∈ ([] : List Addr) from z))
  have htd1 := I1.base.keep td _ htd htn htr (fun z => nomatch (show td ∈ ([] : List Addr) from z))
  refine PySem.W.callWith_F0 ⟨_, _, _, _, of1⟩ ?_
  have un : Un (frs X.stack) [] H HZ s.heap s1.heap := I1.base
  obtain ⟨⟨oc, vs, t, hoc, hdc, hvc⟩, _, _⟩ := I1.hok c' _ hc
  have rc : codeAny (model X.prog X.w) (X.A.deeper (envOfC qg sg s.heap.objs.size g cdg)) (.call (.ref f) ⟨[], []⟩) (CR (L2.CX X.prog X.w) (envOfC qg sg s.heap.objs.size g cdg :: X.stack) X.prog X.w HZ s1 Q E) s1 := by
    refine PySem.W.kla_callFunE hr.depth of1 rfl L.co L.gen rfl ⟨c', oc, vs, t, rfl, hoc, hdc, hvc⟩ ?_
    obtain ⟨kk, hk1, hk2⟩ := hbind
    rw [hk1]
    refine wpAny_bind (wpAny_seqItems htd1 rfl ?_)
    rw [hk2]
    refine wpAny_pure (wpAny_newFunctionEnv (fun y hy => L.cell y hy) (fun y hy => by rw [List.mem_singleton.mp hy]; exact hl0) (fun h₁ hns hsb => ⟨I1.nolimit.fresh _ hsb, ?_⟩) L.kind)
    show codeAny _ _ (.expr body (LamX.lamEnv X scope s1.heap.objs.size f c')) _ _
    have kp : ∀ b o, s1.heap.get? b = some o → h₁.get? b = some o := fun b o e => hsb.extBut b o (Nat.ne_of_lt (Heap.lt_size e)) (Heap.get?_push_of_some _ e)
    have J := lmd_start (f := f) (c' := c') (E := E) (tk := s1.toks + ([(a0, zt)] : List (Str × Value)).length) I L I1.env0 hr.hd un hns kp
    refine PySem.W.kla_codeExpr (wpAny_mono ((hbody _ _ s1 HZ (hr.deeper _)).run [] _ _ HZ Q J ht) (fun v s' hq => ?_) fun e s' hq => hq)
    obtain ⟨w', H', J', rv, q⟩ := hq
    exact ⟨w', H', J'.os, J'.bare, J'.base, J'.hok, rv, q⟩
  have hx : Passes (L2.CX X.prog X.w) ((cxOf CXg X.prog X.w X.K X.mg X.base Ng qg sg g cdg X.A X.stack s H Eg).tr pn xe) E := passes_call tk hW
  refine wpAny_call (codeAny_mono rc fun r s' hq => ?_)
  cases r with
  | error e => exact hx pinsZ σZ HZ s1 e s' I1 hq
  | ok fl =>
    cases fl with
    | ret u => exact I1.after hq
    | next => exact False.elim hq
    | brk => exact False.elim hq
    | cont => exact False.elim hq
end
def tLamP (P : Addr) (T : List (Addr × Str)) (TT : (XK → Hp → VK → Prop) → Hp → VK → Prop) (t : XK → TE) : TE := fun σ H Q => LamX.Tabs T H ∧ ∀ H1, ExtP P H H1 → LamX.Tabs T H1 → TT (fun E H' Q' => t E σ H' Q') H1 Q
section
variable {X : Cx}
theorem pe_lamcallD {T : List (Addr × Str)} {TT : (XK → Hp → VK → Prop) → Hp → VK → Prop} {x a : Str} {g c P : Addr} {k : Nat} {pg : Arguments} {bg : List Stmt} {sg : Scope} {dV kV doc pm cdv ct oc : Value} {an od : Option Addr} {osl : Array (Option Value)} {Ng : List Str}
    {params : Arguments} {body : Expr} {scope : Scope} {t : XK → TE} {p lpos pos : Pos} (hg : Gl X x) (hm : X.mg x = some (.ref g)) (hk : PySem.W.keepIn X.K (.ref g) = true)
    (lk : X.K.lookup g = some ⟨oc, od, .func (PySem.W.fnOf x x pg bg sg dV kV doc pm an cdv ct), osl⟩) (hcg : PySem.W.codeIn X.K cdv x = true) (hb : L2.Binds X.K (PySem.W.fnOf x x pg bg sg dV kV doc pm an cdv ct) [a] []) (Sg : FnScope Ng [a] sg) (hNg : Ng[0]? = some a) (hva : Vis sg a)
    (hG : LamX.GivesTo X Ng x sg g cdv bg a (X.env.qual ++ "<lambda>") TT)
    (TB : LamX.TabB X.base X.mg c P) (hcode : X.env.code = .ref c) (hmT : (P, X.env.qual ++ "<lambda>") ∈ T) (hu : ∀ p ∈ T, p.1 = P → p.2 = X.env.qual ++ "<lambda>") (hr : Room (k + 2) X.A) (L : LamD X.N X.env.scope scope) {dx : Expr} {z : Int} {a0 : Str} (hdef : defaultsOf params X.env = ([eval dx X.env], [])) (hdx : PE X dx (tC (.int z))) (hl0 : scope.names.lookup a0 = some .local)
    (hbind : ∀ (q : Str) (cl : List (Str × Addr)) (pm cv ctv zt : Value) (td : Addr), ∃ k, PySem.bindArgs (lmFn "<lambda>" q params body scope cl pm cv ctv (.ref td)) ⟨[], []⟩ = (seqItems? (.ref td) >>= k) ∧ k (some #[zt]) = pure [(a0, zt)])
    (hbody : ∀ (A : Around) (outer : List Env) (s : Shared) (H : Hp) (E : XK) (f c' : Addr), Room k (A.deeper (LamX.lamEnv X scope s.heap.objs.size f c')) → PE (LamX.lamCx X A outer s H E scope f c') body (t E))
    (hdb : (x == ("__debug__" : Str)) = false := by decide) (hd : (a == ("__debug__" : Str)) = false := by decide) (hcd : (a == ("__classdict__" : Str)) = false := by decide) :
    PE X (.Call (.Name x p) [.Lambda params body scope lpos] [] pos) (tLamP P T TT t) := by
  refine ⟨fun pins s σ H Q I h => ?_⟩
  obtain ⟨hT, h⟩ := h
  refine wpAny_Call_Name_kw (ld_glob I hg hm ?_ hdb)
  refine PySem.W.callWith_K (h₀ := X.base) I.ok.mod.kin hk ?_ (by rfl) (by rfl)
  show wpAny _ _ (spliced ((false, eval (.Lambda params body scope lpos) X.env) :: backTo pos (starEach [] X.env))) _ _ s
  refine Calls.spliced_cons (lmd_make I TB hcode hmT hu hT hdef hdx (L.has I.ok) fun f c' td tkz pm' ctv H1 s' I1 eN T1 htd htn htr hf hfn hfr hco => ?_)
  refine Calls.spliced_nil ⟨I1.kIn, ?_⟩
  have rc : codeAny (model X.prog X.w) X.A (.call (.ref g) ⟨[.ref f], []⟩) (CR C8.CX0 X.stack X.prog X.w H1 s' Q C8.E0) s' := by
    refine LamX.run_ofS (N := Ng) (ps := [a]) (us := [.ref f]) (vs := [.ref f]) lk hcg Sg hr I1.env0 (hb s' [.ref f] I1.kIn rfl) (.cons rfl .nil) rfl fun hr' => ?_
    obtain ⟨t', ht', hq'⟩ := hG f c' s' H1 Q (fun E H' Q' => t E σ H' Q') (fun W pn xe E p1 p2 tk hW => pe_actD (i := 0) I1 L hl0 htd htn htr hf hfn hfr (hbind _ _ _ _ _ _ _) tk hW hr' (fun A outer s H hr2 => hbody A outer s H E f c' hr2) hNg hva hd hcd) hco (h H1 eN T1)
    exact ⟨t', ht'.nox, hq'⟩
  refine wpAny_call (codeAny_mono rc fun r s2 hq => ?_)
  cases r with
  | error e => exact (show False from hq).elim
  | ok fl =>
    cases fl with
    | ret u => exact I1.after hq
    | next => exact False.elim hq
    | brk => exact False.elim hq
    | cont => exact False.elim hq
theorem pe_lamcallN {T : List (Addr × Str)} {TT : (XK → Hp → VK → Prop) → Hp → VK → Prop} {x a : Str} {g c P : Addr} {k : Nat} {pg : Arguments} {bg : List Stmt} {sg : Scope} {dV kV doc pm cdv ct oc : Value} {an od : Option Addr} {osl : Array (Option Value)} {Ng : List Str}
    {params : Arguments} {body : Expr} {scope : Scope} {t : XK → TE} {p lpos pos : Pos} (hg : Gl X x) (hm : X.mg x = some (.ref g)) (hk : PySem.W.keepIn X.K (.ref g) = true)
    (lk : X.K.lookup g = some ⟨oc, od, .func (PySem.W.fnOf x x pg bg sg dV kV doc pm an cdv ct), osl⟩) (hcg : PySem.W.codeIn X.K cdv x = true) (hb : L2.Binds X.K (PySem.W.fnOf x x pg bg sg dV kV doc pm an cdv ct) [a] []) (Sg : FnScope Ng [a] sg) (hNg : Ng[0]? = some a) (hva : Vis sg a)
    (hG : LamX.GivesTo X Ng x sg g cdv bg a (X.env.qual ++ "<lambda>") TT)
    (TB : LamX.TabB X.base X.mg c P) (hcode : X.env.code = .ref c) (hmT : (P, X.env.qual ++ "<lambda>") ∈ T) (hu : ∀ p ∈ T, p.1 = P → p.2 = X.env.qual ++ "<lambda>") (hr : Room (k + 2) X.A) (L : LamX.LamS X.env.scope scope) (hdef : defaultsOf params X.env = ([], []))
    (hbind : ∀ (q : Str) (cl : List (Str × Addr)) (pm cv ctv : Value), PySem.bindArgs (PySem.W.kla_fn "<lambda>" q params body scope cl pm cv ctv) ⟨[], []⟩ = pure [])
    (hbody : ∀ (A : Around) (outer : List Env) (s : Shared) (H : Hp) (E : XK) (f c' : Addr), Room k (A.deeper (LamX.lamEnv X scope s.heap.objs.size f c')) → PE (LamX.lamCx X A outer s H E scope f c') body (t E))
    (hdb : (x == ("__debug__" : Str)) = false := by decide) (hd : (a == ("__debug__" : Str)) = false := by decide) (hcd : (a == ("__classdict__" : Str)) = false := by decide) :
    PE X (.Call (.Name x p) [.Lambda params body scope lpos] [] pos) (tLamP P T TT t) := by
  refine ⟨fun pins s σ H Q I h => ?_⟩
  obtain ⟨hT, h⟩ := h
  refine wpAny_Call_Name_kw (ld_glob I hg hm ?_ hdb)
  refine PySem.W.callWith_K (h₀ := X.base) I.ok.mod.kin hk ?_ (by rfl) (by rfl)
  show wpAny _ _ (spliced ((false, eval (.Lambda params body scope lpos) X.env) :: backTo pos (starEach [] X.env))) _ _ s
  refine Calls.spliced_cons (lmn_make I TB hcode hmT hu hT hdef (L.has I.ok) fun fv cv' pm' ctv' H1 s' I1 eP T1 hf hfn hfr hco => ?_)
  refine Calls.spliced_nil ⟨I1.kIn, ?_⟩
  have rc : codeAny (model X.prog X.w) X.A (.call (.ref g) ⟨[.ref fv], []⟩) (CR C8.CX0 X.stack X.prog X.w H1 s' Q C8.E0) s' := by
    refine LamX.run_ofS (N := Ng) (ps := [a]) (us := [.ref fv]) (vs := [.ref fv]) lk hcg Sg hr I1.env0 (hb s' [.ref fv] I1.kIn rfl) (.cons rfl .nil) rfl fun hr' => ?_
    obtain ⟨t', ht', hq'⟩ := hG fv cv' s' H1 Q (fun E H' Q' => t E σ H' Q') (fun W pn xe E p1 p2 tk hW => LamX.pe_act (i := 0) I1 L hf hfn hfr (hbind _ _ _ _ _) tk hW hr' (fun A outer s H hr2 => hbody A outer s H E fv cv' hr2) hNg hva hd hcd) hco (h H1 eP T1)
    exact ⟨t', ht'.nox, hq'⟩
  refine wpAny_call (codeAny_mono rc fun r s2 hq => ?_)
  cases r with
  | error e => exact (show False from hq).elim
  | ok fl =>
    cases fl with
    | ret u => exact I1.after hq
    | next => exact False.elim hq
    | brk => exact False.elim hq
    | cont => exact False.elim hq
end
end K11
/-! K11W: sorted rows, a text times a number, an error without arguments. -/
namespace K11
open PySem PySem.Spec PyProof.Rows
open L2
section
variable {prog : Program} {w : World} {A : Around} {s : Shared}
theorem tups_ord {a : Addr} {vs : List Value} {d : Nat} {B : Int} (hd : 1 ≤ d) (h2 : 2 ≤ vs.length) (x : TS.TupsOk s.heap d B vs) (ha : ∀ o, s.heap.get? a = some o → o.cls ≠ .type "tuple") (r : Value → Int)
    (hr : ∀ v, v ∈ vs → ∀ ns, TS.TupInts s.heap v ns → r v = TS.code B ns) : SrtO.SortableO prog w A s a vs (fun v u => decide (r v < r u)) := by
  intro h1 keep
  have kp : ∀ b o, s.heap.get? b = some o → o.cls = .type "tuple" → h1.get? b = some o := fun b o e c => keep b o (fun z => ha o (by rw [← z]; exact e) c) e
  have x1 : TS.TupsOk h1 d B vs := x.keeps kp
  obtain ⟨fs, k, hl, hi⟩ := TS.firsts_of hd vs x1
  refine ⟨tuples' true, fun Q E hq => ?_, fun p q hp hq => ?_⟩
  · refine PySem.W.kat_kind (s := { s with heap := h1 }) (T := Value.type "int") k (by omega) (fun f hf => ?_) rfl hq
    obtain ⟨n, t, rfl⟩ := hi f hf
    exact PySem.W.Looks.of_pure rfl
  · obtain ⟨ns, tp, lp, bp⟩ := x1 _ hp
    obtain ⟨ms, tq, lq, bq⟩ := x1 _ hq
    obtain ⟨ns0, tp0, _⟩ := x _ hp
    obtain ⟨ms0, tq0, _⟩ := x _ hq
    have e1 : r p.1 = TS.code B ns := by rw [hr _ hp _ tp0, (tp0.keeps kp).ints.symm.trans tp.ints]
    have e2 : r q.1 = TS.code B ms := by rw [hr _ hq _ tq0, (tq0.keeps kp).ints.symm.trans tq.ints]
    show wpAny (model prog w) A (keyLt' (tuples' true) p.1 q.1) (fun z s' => s' = { s with heap := h1 } ∧ z = decide (r p.1 < r q.1)) (fun _ _ => False) { s with heap := h1 }
    rw [e1, e2]
    obtain ⟨b1, xs, f1, ⟨o1, g1, _, n1, d1⟩, i1⟩ := tp
    obtain ⟨b2, ys, f2, ⟨o2, g2, _, n2, d2⟩, i2⟩ := tq
    rw [f1, f2]
    refine PySem.W.kat_lt (s := { s with heap := h1 }) g1 d1 g2 d2 ?_
    have sz : decide (xs.size < ys.size) = false := by
      have l1 := i1.length
      have l2 := i2.length
      rw [Array.length_toList] at l1 l2
      exact decide_eq_false (by omega)
    rw [sz]
    exact TS.lex_ints 0 i1 i2 (by omega) bp bq ⟨rfl, rfl⟩
theorem swo_rank (r : Value → Int) : SrtO.Swo fun v u => decide (r v < r u) := by
  refine ⟨fun x y h => ?_, fun x y z h1 h2 => ?_⟩
  · have k := of_decide_eq_true h
    exact decide_eq_false (by omega)
  · have k1 := of_decide_eq_false h1
    have k2 := of_decide_eq_false h2
    exact decide_eq_false (by omega)
end
section
variable {X : Cx}
def rSortR (K : PySem.W.Frag) (d : Nat) (B : Int) : List V → List V → Hp → VK → Prop := fun vs zs H Q => ∃ (a : Addr) (xs : List V), vs = [V.ref a] ∧ zs = [.bl true] ∧ SqL K H a xs ∧ (∀ x ∈ xs, ∃ ns, TupI K H x ns ∧ ns.length = d ∧ TS.Bd B ns) ∧
  ∀ (ys : List V) (p : Addr), ys.Perm xs → H p = none → Q (.ref p) (upd H p (.lst ys))
theorem cr_sortR {d : Nat} {B : Int} (hd : 1 ≤ d) : CallRK X (.builtin "sorted") [Str.ofString "reverse"] (rSortR X.K d B) := by
  intro pins s σ H vs zs us ws Q I r rz h
  obtain ⟨a, xs, rfl, rfl, hs, hx, q⟩ := h
  obtain rfl := Vals.ref1 r
  obtain ⟨w1, rfl, e1⟩ := vals1 rz
  obtain rfl : w1 = Value.bool true := e1
  obtain ⟨its, rv, hl, hz⟩ := I.list hs
  obtain ⟨b1, b2⟩ := bkV_refs rv fun x m => by
    obtain ⟨ns, ⟨t, e, _⟩, _⟩ := hx x m
    exact ⟨t, e⟩
  have ok : TS.TupsOk s.heap d B its := fun v hv => by
    obtain ⟨t, rfl⟩ := b2 v hv
    obtain ⟨ns, ⟨t', e, ht⟩, hn, hb⟩ := hx (V.ref t) (by rw [b1]; exact List.mem_map.mpr ⟨_, hv, rfl⟩)
    cases e
    exact ⟨ns, tupI_raw I ht, hn, hb⟩
  refine SrtR.sorted_ordK (fun _ => rfl) (PyProof.Rows.args_sorted_rev _ _) (fun _ => PyProof.Rows.args_list_sort_rev _ _) (swo_rank fun v => TS.code B (TS.intsOf s.heap v)) hl.isList (by rw [← rv.length]; exact hz) (fun h2 h₁ a' ga kp => ?_) fun out h1 h2 => ?_
  · refine tups_ord (s := { s with heap := h₁ }) hd h2 (ok.keeps fun b o e _ => (kp b o e).2) (fun o e => ?_) _ fun v hv ns t => ?_
    · have e' : some o = some _ := e.symm.trans ga
      cases e'
      intro c
      injection c with c2
      exact absurd c2 (by decide)
    · obtain ⟨ns0, t0, _⟩ := ok v hv
      have e : ns = ns0 := t.ints.symm.trans (t0.keeps fun b o e _ => (kp b o e).2).ints
      rw [e]
      show TS.code B (TS.intsOf s.heap v) = TS.code B ns0
      rw [t0.ints]
  · have hp : out.Perm its := h2.perm.trans (List.reverse_perm its)
    have hp2 : (out.reverse).Perm its := (List.reverse_perm out).trans hp
    obtain ⟨ep, he⟩ := PyProof.Rows.sortedAll_at s.heap its (out.toArray.reverse)
    have e0 : out.toArray.reverse = (out.reverse).toArray := by simp
    have hm : (out.reverse.map bkV).Perm xs := by
      rw [b1]
      exact hp2.map bkV
    have hlen : (out.reverse.map bkV).length ≤ sizeLine := by
      rw [hm.length_eq]
      exact hz
    refine ⟨.ref _, upd H (s.heap.objs.size + 1) (.lst (out.reverse.map bkV)), I.laid (t' := s.toks) (fun _ _ => PyProof.Rows.sortedAll_old) (Nat.le_succ _) ⟨hlen, out.reverse, ep, bkV_vals (fun u hu => b2 u (hp2.mem_iff.mp hu)), by rw [← e0]; exact he⟩, rfl, q _ _ hm (I.hok.fresh (Nat.le_succ _))⟩
/-- ' ' times 0, 1, 2 -/
def spN : Nat → Str
  | 0 => Str.empty
  | 1 => " "
  | _ => "  "
def rMulS : R2 := fun x y H Q => ∃ n : Nat, x = .str " " ∧ y = .int (n : Int) ∧ n ≤ 2 ∧ Q (.str (spN n)) H
theorem op_mulS : OpR X (binaryOp .Mult) rMulS := by
  intro pins s σ H x y v u Q I rx ry h
  obtain ⟨n, rfl, rfl, hn, q⟩ := h
  obtain ⟨t, rfl⟩ := rx
  obtain ⟨t', rfl⟩ := ry
  match n, hn, q with
  | 0, _, q => exact PySem.P.mul_str (by decide) (fun k => absurd (show (0 : Int) < 1 by decide) k) (fun k => absurd (show (0 : Int) < 1 by decide) k) ⟨by decide, .str (spN 0), H, I.tok _, ⟨_, rfl⟩, q⟩
  | 1, _, q => exact PySem.P.mul_str (by decide) (fun _ k => absurd k (by decide)) (fun _ k => absurd k (by decide)) ⟨.str (spN 1), H, I, ⟨_, rfl⟩, q⟩
  | 2, _, q => exact PySem.P.mul_str (by decide) (fun _ _ => by decide) (fun _ _ => by decide) ⟨by decide, .str (spN 2), H, I.tok _, ⟨_, rfl⟩, q⟩
theorem pmk_own0 {C : Addr} {bmB : List Value} {B newId initId : String} {x : Str} {p pos : Pos} (F : ExcBaseFacts B newId initId bmB) (q : PySem.W.excIn X.K C bmB newId = true) (gC : X.mg x = some (.ref C)) (kC : PySem.W.keepIn X.K (.ref C) = true) (r : Raises X (.ref C)) (hg : Gl X x)
    (hdb : (x == ("__debug__" : Str)) = false := by decide) : PMk X (.Call (.Name x p) [] [] pos) (fun _ H Q => Q (.ref C) none H) := by
  intro pins s σ H Q I h
  refine wpAny_Call_Name_kw (ld_glob I hg gC ?_ hdb)
  refine PySem.W.callWith_K0 I.kIn kC ?_
  show wpAny _ _ (call (.ref C) []) _ _ _
  obtain ⟨bm, N, nm, qn, bs, hdct, sn, sub, ab, col, dd, k0, k1, k2, k3, k5, mN, hC, hN, hni, T⟩ := exc_obj I.kIn q
  exact wpAny_call_exc_subT F T hC hN hni fun h' e hm => mk_of I hm r h (I.hok.gone hm.new)
/-! the rules that name the frozen heap, with the heap given -/
theorem ixT (K : PySem.W.Frag) (h : X.K = K := by rfl) : IxR X (rIxT K) := by
  subst h
  exact ix_tup
theorem ixL (K : PySem.W.Frag) (h : X.K = K := by rfl) : IxR X (rIxL K) := by
  subst h
  exact ix_list
theorem lenK (K : PySem.W.Frag) (h : X.K = K := by rfl) : CallR X (.builtin "len") (fun xs H Q => ∃ x n, xs = [x] ∧ LenV K x H n ∧ Q (.int n) H) := by
  subst h
  exact call_len
theorem isiK (K : PySem.W.Frag) (h : X.K = K := by rfl) : CallR X (.builtin "isinstance") (rIsi K) := by
  subst h
  exact call_isi
theorem isiTK (K : PySem.W.Frag) (h : X.K = K := by rfl) : CallR X (.builtin "isinstance") (rIsiT K) := by
  subst h
  exact call_isiT
theorem tupK (K : PySem.W.Frag) (h : X.K = K := by rfl) : CallR X (.type "tuple") (fun xs H Q => ∃ p ys, xs = [.ref p] ∧ ((SqL K H p ys ∧ ∀ l, H l = none → Q (.ref l) (upd H l (.tup ys))) ∨ (SqT K H p ys ∧ Q (.ref p) H))) := by
  subst h
  exact call_tuple_of
theorem inK (K : PySem.W.Frag) (h : X.K = K := by rfl) : OpR X (compareOp .In) (rIn K false) := by
  subst h
  exact op_in_seq
theorem notInK (K : PySem.W.Frag) (h : X.K = K := by rfl) : OpR X (compareOp .NotIn) (rIn K true) := by
  subst h
  exact op_notIn_seq
theorem slLK (K : PySem.W.Frag) (h : X.K = K := by rfl) : L2.SlR X (rSlL K) := by
  subst h
  exact sl_list
theorem slTK (K : PySem.W.Frag) (h : X.K = K := by rfl) : L2.SlR X (rSlT K) := by
  subst h
  exact sl_tup
theorem catAK (K : PySem.W.Frag) (h : X.K = K := by rfl) : OpR X (binaryOp .Add) (rCatA K) := by
  subst h
  exact op_catA
theorem piL (K : PySem.W.Frag) {tg l : Expr} {tl : TE} (hl : PE X l tl) (h : X.K = K := by rfl) : PI X tg l (iList K tl) := by
  subst h
  exact pi_list hl
theorem piT (K : PySem.W.Frag) {tg l : Expr} {tl : TE} (hl : PE X l tl) (h : X.K = K := by rfl) : PI X tg l (iTup K tl) := by
  subst h
  exact pi_tup hl
end
end K11
/-! K11H: the small defs of the fields. -/
namespace K11
open PySem PySem.Spec PyProof.Rows
open L2
theorem rpl_2 {K : PySem.W.Frag} {W : Hp} {a b : D} {vs : List V} (h : RpL K W [a, b] vs) : ∃ v w, vs = [v, w] ∧ Rp K W a v ∧ Rp K W b w := by
  match vs, h with
  | [v, w], ⟨r1, r2, _⟩ => exact ⟨v, w, rfl, r1, r2⟩
theorem rpl_1 {K : PySem.W.Frag} {W : Hp} {a : D} {vs : List V} (h : RpL K W [a] vs) : ∃ v, vs = [v] ∧ Rp K W a v := by
  match vs, h with
  | [v], ⟨r1, _⟩ => exact ⟨v, rfl, r1⟩
section
variable {K : PySem.W.Frag} {T : List (Addr × Str)} {P : List Addr} {B : Hp} {δ : List Sl} {ta te : TE} {d : D}
theorem io_zipTT {ta : TA} {l m : List D} (h : Ea1 K T P B ta δ [.tup l, .tup m]) (hl : l.length = m.length) : Io1 K T P B (RZ.iZipA K ta) δ l.length (fun i => .tup [l.getD i .non, m.getD i .non]) := by
  intro σ W R H1 e Rr q
  refine h σ W R H1 e _ fun d vs W2 H2 hd z rv => ?_
  subst hd
  obtain ⟨v, w, rfl, r1, r2⟩ := rpl_2 rv
  obtain ⟨p, xs, rfl, hs, h1⟩ := r1
  obtain ⟨p', ys, rfl, hs', h2⟩ := r2
  exact ⟨p, p', xs, ys, rfl, .inr ⟨ex_st z.to hs, ex_st z.to hs', q _ W2 H2 _ _ ⟨rfl, rfl⟩ z (it_zipTT hs h1 hs' h2 hl)⟩⟩
/-! what type it is -/
def dI : D → Bool
  | .int _ => true
  | .bl _ => true
  | _ => false
def dB : D → Bool
  | .bl _ => true
  | _ => false
def dS : D → Bool
  | .str _ => true
  | _ => false
def dT : D → Bool
  | .tup _ => true
  | _ => false
def dL : D → Bool
  | .lst _ => true
  | .row _ _ _ => true
  | _ => false
theorem kI (d : D) : kitB (tyD d) "int" = some (dI d) := by
  cases d with
  | non =>
    show kitB "NoneType" "int" = some false
    decide +kernel
  | bl _ =>
    show kitB "bool" "int" = some true
    decide +kernel
  | int _ =>
    show kitB "int" "int" = some true
    decide +kernel
  | str _ =>
    show kitB "str" "int" = some false
    decide +kernel
  | lst _ =>
    show kitB "list" "int" = some false
    decide +kernel
  | tup _ =>
    show kitB "tuple" "int" = some false
    decide +kernel
  | row _ _ _ =>
    show kitB "list" "int" = some false
    decide +kernel
theorem kB (d : D) : kitB (tyD d) "bool" = some (dB d) := by
  cases d with
  | non =>
    show kitB "NoneType" "bool" = some false
    decide +kernel
  | bl _ =>
    show kitB "bool" "bool" = some true
    decide +kernel
  | int _ =>
    show kitB "int" "bool" = some false
    decide +kernel
  | str _ =>
    show kitB "str" "bool" = some false
    decide +kernel
  | lst _ =>
    show kitB "list" "bool" = some false
    decide +kernel
  | tup _ =>
    show kitB "tuple" "bool" = some false
    decide +kernel
  | row _ _ _ =>
    show kitB "list" "bool" = some false
    decide +kernel
theorem kS (d : D) : kitB (tyD d) "str" = some (dS d) := by
  cases d with
  | non =>
    show kitB "NoneType" "str" = some false
    decide +kernel
  | bl _ =>
    show kitB "bool" "str" = some false
    decide +kernel
  | int _ =>
    show kitB "int" "str" = some false
    decide +kernel
  | str _ =>
    show kitB "str" "str" = some true
    decide +kernel
  | lst _ =>
    show kitB "list" "str" = some false
    decide +kernel
  | tup _ =>
    show kitB "tuple" "str" = some false
    decide +kernel
  | row _ _ _ =>
    show kitB "list" "str" = some false
    decide +kernel
theorem kT (d : D) : kitB (tyD d) "tuple" = some (dT d) := by
  cases d with
  | non =>
    show kitB "NoneType" "tuple" = some false
    decide +kernel
  | bl _ =>
    show kitB "bool" "tuple" = some false
    decide +kernel
  | int _ =>
    show kitB "int" "tuple" = some false
    decide +kernel
  | str _ =>
    show kitB "str" "tuple" = some false
    decide +kernel
  | lst _ =>
    show kitB "list" "tuple" = some false
    decide +kernel
  | tup _ =>
    show kitB "tuple" "tuple" = some true
    decide +kernel
  | row _ _ _ =>
    show kitB "list" "tuple" = some false
    decide +kernel
theorem kL (d : D) : kitB (tyD d) "list" = some (dL d) := by
  cases d with
  | non =>
    show kitB "NoneType" "list" = some false
    decide +kernel
  | bl _ =>
    show kitB "bool" "list" = some false
    decide +kernel
  | int _ =>
    show kitB "int" "list" = some false
    decide +kernel
  | str _ =>
    show kitB "str" "list" = some false
    decide +kernel
  | lst _ =>
    show kitB "list" "list" = some true
    decide +kernel
  | tup _ =>
    show kitB "tuple" "list" = some false
    decide +kernel
  | row _ _ _ =>
    show kitB "list" "list" = some true
    decide +kernel
theorem getD_int {ns : List Int} {i : Nat} (h : i < ns.length) : (ns.map D.int).getD i .non = .int (ns.getD i 0) := by
  rw [List.getD_eq_getElem?_getD, List.getElem?_map, List.getElem?_eq_getElem h, List.getD_eq_getElem?_getD, List.getElem?_eq_getElem h]
  rfl
theorem rowD_int : ∀ ns : List Int, rowD (ns.map D.int) = false
  | [] => rfl
  | [_] => rfl
  | [_, _] => rfl
  | [_, _, _] => rfl
  | [_, _, _, _] => rfl
  | _ :: _ :: _ :: _ :: _ :: _ => rfl
theorem range_int (n : Nat) (g : Nat → Int) : (List.range n).map (fun i => D.int (g i)) = ((List.range n).map g).map D.int := by
  rw [List.map_map]
  rfl
theorem rowD_rint (n : Nat) (g : Nat → Int) : rowD ((List.range n).map (fun i => D.int (g i))) = false := by
  rw [range_int]
  exact rowD_int _
end
abbrev rowT (ns : List Int) : D := .tup (ns.map .int)
variable {PP : Program} {w : World} {K : PySem.W.Frag} {T : List (Addr × Str)} {P : List Addr} {mg : Str → Option Value} {base : Heap}
/-! ### is_number -/
def isNum (d : D) (lo hi : Int) : Bool := match d with
  | .int i => decide (lo ≤ i) && decide (i ≤ hi)
  | _ => false
theorem sc_is_number : FnScope ["value", "low", "high"] ["value", "low", "high"] (defScope (topS 8)) := ⟨rfl, rfl, rfl, by decide +kernel, rfl, by decide +kernel, by decide +kernel⟩
abbrev sp_is_number (K : PySem.W.Frag) (T : List (Addr × Str)) (P : List Addr) : Sp := spF K T P (ι := D × Int × Int) (fun i => [i.1, .int i.2.1, .int i.2.2]) (fun _ => True) (fun i d => d = .bl (isNum i.1 i.2.1 i.2.2))
theorem ok_is_number {f : Addr} {fd : FuncData} (TT : Tx K mg) (F : Dfn K mg "is_number" 8 ["value", "low", "high"] f fd) : FnOk PP w K mg base CX0 1 f fd ["value", "low", "high"] (sp_is_number K T P) := by
  refine F.ok sc_is_number (spF_len fun _ => rfl) fun cdv A outer s H vs Q E hr h => ?_
  refine ⟨_, (pss_one (ps_ret (pe_and (pe_callB (isiK K) (by rfl) TT.b_isinstance (by decide +kernel) (pa_cons (pv 0) (pa_cons (pe_bltn (v := .ty "int") (u := .type "int") (by rfl) TT.b_int (by decide +kernel) rfl) pa_nil))) (pe_and (pe_not (pe_callB (isiK K) (by rfl) TT.b_isinstance (by decide +kernel) (pa_cons (pv 0) (pa_cons (pe_bltn (v := .ty "bool") (u := .type "bool") (by rfl) TT.b_bool (by decide +kernel) rfl) pa_nil)))) (pe_one (pe_chain op_le op_le (pv 1) (pv 0) (pv 2))))))), ?_⟩
  obtain ⟨⟨d, lo, hi⟩, W, e, r, g, -, k⟩ := h
  have s0 := ss_start (N := ["value", "low", "high"]) e r g
  refine s_ret1 (d := .bl (isNum d lo hi)) ?_ s0 e fun v W' H2 z rv => k _ _ _ _ rfl z rv
  cases d with
  | int i => exact E1.is (e_andV (l := !dB (.int i) && (decide (lo ≤ i) && decide (i ≤ hi))) (e_isi (d := .int i) (e_var rfl) (kI _)) fun _ => e_andV (e_notV (e_isi (d := .int i) (e_var rfl) (kB _))) fun _ => e_chain (e_var rfl) (e_var rfl) o_le (fun _ => e_var rfl) fun _ => o_le) rfl
  | bl i => exact E1.is (e_andV (l := false) (e_isi (d := .bl i) (e_var rfl) (kI _)) fun _ => E1.is (e_andV (l := true) (e_notV (e_isi (d := .bl i) (e_var rfl) (kB _))) fun h => absurd h Bool.false_ne_true) rfl) rfl
  | non => exact E1.is (e_andV (l := false) (e_isi (d := .non) (e_var rfl) (kI _)) fun h => absurd h Bool.false_ne_true) rfl
  | str x => exact E1.is (e_andV (l := false) (e_isi (d := .str x) (e_var rfl) (kI _)) fun h => absurd h Bool.false_ne_true) rfl
  | lst x => exact E1.is (e_andV (l := false) (e_isi (d := .lst x) (e_var rfl) (kI _)) fun h => absurd h Bool.false_ne_true) rfl
  | tup x => exact E1.is (e_andV (l := false) (e_isi (d := .tup x) (e_var rfl) (kI _)) fun h => absurd h Bool.false_ne_true) rfl
  | row x y z => exact E1.is (e_andV (l := false) (e_isi (d := .row x y z) (e_var rfl) (kI _)) fun h => absurd h Bool.false_ne_true) rfl
/-! ### added, scaled -/
def addR (p : Int) (xs ys : List Int) (f : Int) : List Int := (List.range xs.length).map fun i => (xs.getD i 0 + f * ys.getD i 0) % p
theorem sc_added : FnScope ["prime", "one", "other", "factor", "left", "right"] ["prime", "one", "other", "factor"] (defScope (topS 11)) := ⟨rfl, rfl, rfl, by decide +kernel, rfl, by decide +kernel, by decide +kernel⟩
abbrev sp_added (K : PySem.W.Frag) (T : List (Addr × Str)) (P : List Addr) : Sp := spF K T P (ι := Int × List Int × List Int × Int) (fun i => [.int i.1, rowT i.2.1, rowT i.2.2.1, .int i.2.2.2])
  (fun i => 0 < i.1 ∧ i.2.1.length = i.2.2.1.length ∧ i.2.1.length ≤ 1000 ∧ ∀ y ∈ i.2.2.1, 0 ≤ y ∧ y < 1000) (fun i d => d = rowT (addR i.1 i.2.1 i.2.2.1 i.2.2.2))
theorem getD_all {Pp : Int → Prop} {ys : List Int} (h : ∀ y ∈ ys, Pp y) (h0 : Pp 0) (i : Nat) : Pp (ys.getD i 0) := by
  rw [List.getD_eq_getElem?_getD]
  cases q : ys[i]? with
  | none => exact h0
  | some y => exact h y (List.mem_of_getElem? q)
theorem ok_added {f : Addr} {fd : FuncData} (TT : Tx K mg) (F : Dfn K mg "added" 11 ["prime", "one", "other", "factor"] f fd) : FnOk PP w K mg base CX0 1 f fd ["prime", "one", "other", "factor"] (sp_added K T P) := by
  refine F.ok sc_added (spF_len fun _ => rfl) fun cdv A outer s H vs Q E hr h => ?_
  refine ⟨_, (pss_one (ps_ret (pe_callTy (tupK K) (by rfl) TT.b_tuple (by decide +kernel) (pa_cons (pe_lc (g := gTup K 2 (gCons (gName 4) (gCons (gName 5) (gNil)))) (own := [("left", 4), ("right", 5)]) (by rfl) sc_added.nd (RZ.pi_zipA (by rfl) TT.b_zip (pa_cons (pv 1) (pa_cons (pv 2) pa_nil))) (blkOk_by (own := [("left", 4), ("right", 5)]) (by rfl)) (fun _ _ _ _ _ => (pg_tup (by rfl) (pgs_cons (pg_name (i := 4) sc_added.nd rfl (Or.inl rfl)) (pgs_cons (pg_name (i := 5) sc_added.nd rfl (Or.inl rfl)) pgs_nil)))) (fun _ _ _ _ _ => pts_nil) (fun _ _ _ _ _ => (pe_op op_mod (pe_op op_add (pv 4) (pe_op op_mul (pv 3) (pv 5))) (pv 0)))) pa_nil)))), ?_⟩
  obtain ⟨⟨p, xs, ys, f⟩, W, e, r, g, ⟨hp, hl, hn, hy⟩, k⟩ := h
  dsimp only at hp hl hn hy k r
  have s0 := ss_start (N := ["prime", "one", "other", "factor", "left", "right"]) e r g
  refine s_ret1 (d := rowT (addR p xs ys f)) ?_ s0 e fun v W' H2 z rv => k _ _ _ _ rfl z rv
  refine e_cb (a_1 (El.e1 (l := (addR p xs ys f).map .int) ?_)) c_tupL
  unfold addR
  rw [← range_int]
  have hlen : (xs.map D.int).length = xs.length := List.length_map ..
  rw [← hlen]
  refine el_lcM (δ' := fun i => [.d (.int p), .d (rowT xs), .d (rowT ys), .d (.int f), .d (.int (xs.getD i 0)), .d (.int (ys.getD i 0))]) (io_zipTT (a_2 (e_var rfl) (e_var rfl)) (by simp [hl])) (fun i hi => ?_) (by rw [hlen]; omega) (fun i hi => rowD_rint ..) fun i hi => ?_
  · rw [hlen] at hi
    rw [getD_int hi, getD_int (by omega)]
    exact tg_pair
  · refine e_op (e_op (e_var rfl) (e_op (e_var rfl) (e_var rfl) (o_mul (.inr ⟨?_, ?_⟩))) o_add) (e_var rfl) (o_mod hp)
    · have := getD_all hy (by decide) i
      omega
    · have := getD_all hy (by decide) i
      omega
def sclR (p : Int) (xs : List Int) (f : Int) : List Int := (List.range xs.length).map fun i => (f * xs.getD i 0) % p
theorem sc_scaled : FnScope ["prime", "row", "factor", "number"] ["prime", "row", "factor"] (defScope (topS 12)) := ⟨rfl, rfl, rfl, by decide +kernel, rfl, by decide +kernel, by decide +kernel⟩
abbrev sp_scaled (K : PySem.W.Frag) (T : List (Addr × Str)) (P : List Addr) : Sp := spF K T P (ι := Int × List Int × Int) (fun i => [.int i.1, rowT i.2.1, .int i.2.2])
  (fun i => 0 < i.1 ∧ i.2.1.length ≤ 1000 ∧ ∀ y ∈ i.2.1, 0 ≤ y ∧ y < 1000) (fun i d => d = rowT (sclR i.1 i.2.1 i.2.2))
theorem ok_scaled {f : Addr} {fd : FuncData} (TT : Tx K mg) (F : Dfn K mg "scaled" 12 ["prime", "row", "factor"] f fd) : FnOk PP w K mg base CX0 1 f fd ["prime", "row", "factor"] (sp_scaled K T P) := by
  refine F.ok sc_scaled (spF_len fun _ => rfl) fun cdv A outer s H vs Q E hr h => ?_
  refine ⟨_, (pss_one (ps_ret (pe_callTy (tupK K) (by rfl) TT.b_tuple (by decide +kernel) (pa_cons (pe_lc (g := gName 3) (own := [("number", 3)]) (by rfl) sc_scaled.nd (piT K (pv 1)) (blkOk_by (own := [("number", 3)]) (by rfl)) (fun _ _ _ _ _ => (pg_name (i := 3) sc_scaled.nd rfl (Or.inl rfl))) (fun _ _ _ _ _ => pts_nil) (fun _ _ _ _ _ => (pe_op op_mod (pe_op op_mul (pv 2) (pv 3)) (pv 0)))) pa_nil)))), ?_⟩
  obtain ⟨⟨p, xs, f⟩, W, e, r, g, ⟨hp, hn, hy⟩, k⟩ := h
  dsimp only at hp hn hy k r
  have s0 := ss_start (N := ["prime", "row", "factor", "number"]) e r g
  refine s_ret1 (d := rowT (sclR p xs f)) ?_ s0 e fun v W' H2 z rv => k _ _ _ _ rfl z rv
  refine e_cb (a_1 (El.e1 (l := (sclR p xs f).map .int) ?_)) c_tupL
  unfold sclR
  rw [← range_int]
  have hlen : (xs.map D.int).length = xs.length := List.length_map ..
  rw [← hlen]
  refine el_lcM (δ' := fun i => [.d (.int p), .d (rowT xs), .d (.int f), .d (.int (xs.getD i 0))]) (io_tup (e_var rfl)) (fun i hi => ?_) (by rw [hlen]; omega) (fun i hi => rowD_rint ..) fun i hi => ?_
  · rw [hlen] at hi
    rw [getD_int hi]
    exact tg_name
  · refine e_op (e_op (e_var rfl) (e_var rfl) (o_mul (.inr ⟨?_, ?_⟩))) (e_var rfl) (o_mod hp)
    · have := getD_all hy (by decide) i
      omega
    · have := getD_all hy (by decide) i
      omega
end K11
/-! K11I: inverse, lead. -/
namespace K11
open PySem PySem.Spec PyProof.Rows
open L2
section
variable {K : PySem.W.Frag} {T : List (Addr × Str)} {P : List Addr} {B : Hp} {δ : List Sl} {te : TE} {wi : TI}
theorem el_lcF {g : TG} {tt : TT} {vs : List Nat} {n : Nat} {el : Nat → D} {f : Nat → D} {t : Nat → Bool} {δ' : Nat → List Sl} (hs : Io1 K T P B wi δ n el) (hg : ∀ i, i < n → Tg K T P B g (el i) vs (wipeS δ vs) (δ' i)) (hn : n ≤ 100000) (hr : ∀ i, i ≤ n → rowD (((List.range i).filter t).map f) = false)
    (ht : ∀ i, i < n → Et1 K T P B tt (δ' i) (t i)) (h : ∀ i, i < n → t i = true → E1 K T P B te (δ' i) (f i)) : El K T P B (tLc wi g tt te vs) δ (fun l => l = ((List.range n).filter t).map f) := by
  refine el_lc (δ' := fun _ _ i => δ' i) hs (fun n' el' i hz hi => ?_) fun n' el' hz => ⟨fun i l => i ≤ n ∧ l = ((List.range i).filter t).map f, ⟨Nat.zero_le _, rfl⟩, ?_, ?_, ?_⟩
  · obtain ⟨rfl, rfl⟩ := hz
    exact hg i hi
  · rintro i l ⟨h1, rfl⟩
    refine ⟨hr i h1, ?_⟩
    rw [List.length_map]
    have k := List.length_filter_le t (List.range i)
    rw [List.length_range] at k
    omega
  · rintro l ⟨_, h2⟩
    rw [h2, hz.1]
  · rintro i l hi ⟨h1, rfl⟩
    obtain ⟨rfl, rfl⟩ := hz
    refine ⟨fun b => b = t i, ht i hi, fun z => ?_, fun z => ⟨hi, ?_⟩⟩
    · refine (h i hi z.symm).imp fun d hd => ⟨hi, ?_⟩
      rw [hd, List.range_succ, List.filter_append, List.map_append]
      simp [← z]
    · rw [List.range_succ, List.filter_append, List.map_append]
      simp [← z]
theorem io_enumT {ta : TA} {l : List D} (h : Ea1 K T P B ta δ [.tup l]) : Io1 K T P B (iEnumT K ta) δ l.length (fun i => .tup [.int (i : Int), l.getD i .non]) := by
  intro σ W R H1 e Rr q
  refine h σ W R H1 e _ fun d vs W2 H2 hd z rv => ?_
  subst hd
  obtain ⟨v, rfl, r1⟩ := rpl_1 rv
  obtain ⟨p, xs, rfl, hs, hl⟩ := r1
  have len := rpl_len hl
  have S : ItOk K T (IteT K p) W2 l.length (fun i => .tup [.int (i : Int), l.getD i .non]) := by
    refine ⟨fun H3 e => ⟨xs, ex_st e hs, len⟩, fun i H3 hi e => ⟨xs, xs[i], ex_st e hs, List.getElem?_eq_getElem (by omega)⟩, fun i W3 H3 x H4 hi e e3 h => ?_⟩
    obtain ⟨w, y, rfl, hz, rfl, hx⟩ := h
    have q1 := hx xs (ex_st (e.trans e3) hs)
    obtain ⟨v, e1, e2⟩ := rpl_get hl (getDq hi)
    rw [q1] at e1
    cases e1
    exact pair_new e3 hz rp_i (ex_rp e _ _ e2)
  exact ⟨p, xs, rfl, ex_st z.to hs, q _ W2 H2 _ _ ⟨rfl, rfl⟩ z S⟩
theorem io_zipX {ta : TA} {l m : List D} (h : Ea1 K T P B ta δ [.lst l, .tup m]) (hl : l.length = m.length) : Io1 K T P B (iZipX K ta) δ l.length (fun i => .tup [l.getD i .non, m.getD i .non]) := by
  intro σ W R H1 e Rr q
  refine h σ W R H1 e _ fun d vs W2 H2 hd z rv => ?_
  subst hd
  obtain ⟨v, w, rfl, r1, r2⟩ := rpl_2 rv
  obtain ⟨p, xs, rfl, hs, g, h1⟩ := r1
  obtain ⟨p', ys, rfl, hs', h2⟩ := r2
  have l1 := rpl_len h1
  have l2 := rpl_len h2
  have S : ItOk K T (ItzX K p p') W2 l.length (fun i => .tup [l.getD i .non, m.getD i .non]) := by
    refine ⟨fun H3 e => ⟨xs, ys, SqL.of (e.keep _ _ hs g), ex_st e hs', l1, by omega⟩, fun i H3 hi e => ⟨xs, ys, xs[i], ys[i], SqL.of (e.keep _ _ hs g), ex_st e hs', List.getElem?_eq_getElem (by omega), List.getElem?_eq_getElem (by omega)⟩, fun i W3 H3 x H4 hi e e3 h => ?_⟩
    obtain ⟨w, y, y', rfl, hz, rfl, hx, hy⟩ := h
    have q1 := hx xs (SqL.of (e3.keep _ _ (e.keep _ _ hs g) g))
    have q2 := hy ys (ex_st (e.trans e3) hs')
    obtain ⟨v, e1, e2⟩ := rpl_get h1 (getDq hi)
    obtain ⟨v', e1', e2'⟩ := rpl_get h2 (getDq (i := i) (by omega))
    rw [q1] at e1
    rw [q2] at e1'
    cases e1
    cases e1'
    exact pair_new e3 hz (ex_rp e _ _ e2) (ex_rp e _ _ e2')
  exact ⟨p, p', xs, ys, rfl, SqL.of (z.to.keep _ _ hs g), ex_st z.to hs', q _ W2 H2 _ _ ⟨rfl, rfl⟩ z S⟩
end
theorem Tg.cast {K : PySem.W.Frag} {T : List (Addr × Str)} {P : List Addr} {B : Hp} {g : TG} {d d' : D} {vs : List Nat} {δ δ' : List Sl} (e : d = d') (h : Tg K T P B g d' vs δ δ') : Tg K T P B g d vs δ δ' := by
  rw [e]
  exact h
variable {PP : Program} {w : World} {K : PySem.W.Frag} {T : List (Addr × Str)} {P : List Addr} {mg : Str → Option Value} {base : Heap}
/-! ### inverse -/
def invL (p x : Int) : List Int := ((List.range (p - 1).toNat).filter (fun i : Nat => decide ((1 + (i : Int)) * x % p = 1))).map fun i : Nat => 1 + (i : Int)
def invN (p x : Int) : Int := (invL p x).headD 0
def isPr (p : Int) : Prop := p = 2 ∨ p = 3 ∨ p = 5 ∨ p = 7
theorem invL_ok {p x : Int} (hp : isPr p) (h0 : 0 < x) (h1 : x < p) : (invL p x)[0]? = some (invN p x) ∧ 0 < invN p x ∧ invN p x < p ∧ invN p x * x % p = 1 := by
  have key : ∀ p ∈ ([2, 3, 5, 7] : List Int), ∀ i ∈ List.range 7, 0 < (i : Int) → (i : Int) < p → (invL p i)[0]? = some (invN p i) ∧ 0 < invN p i ∧ invN p i < p ∧ invN p i * i % p = 1 := by decide +kernel
  have hx : ((x.toNat : Nat) : Int) = x := by omega
  have hm : p ∈ ([2, 3, 5, 7] : List Int) := by
    rcases hp with rfl | rfl | rfl | rfl <;> decide
  have hb : p ≤ 7 := by
    rcases hp with rfl | rfl | rfl | rfl <;> decide
  have k := key p hm x.toNat (List.mem_range.mpr (by omega)) (by omega) (by omega)
  rw [hx] at k
  exact k
theorem isPr.pos {p : Int} (h : isPr p) : 2 ≤ p ∧ p ≤ 7 := by
  rcases h with rfl | rfl | rfl | rfl <;> decide
theorem sc_inverse : FnScope ["prime", "number", "one"] ["prime", "number"] (defScope (topS 10)) := ⟨rfl, rfl, rfl, by decide +kernel, rfl, by decide +kernel, by decide +kernel⟩
abbrev sp_inverse (K : PySem.W.Frag) (T : List (Addr × Str)) (P : List Addr) : Sp := spF K T P (ι := Int × Int) (fun i => [.int i.1, .int i.2]) (fun i => isPr i.1 ∧ 0 < i.2 ∧ i.2 < i.1) (fun i d => d = .int (invN i.1 i.2))
theorem ok_inverse {f : Addr} {fd : FuncData} (TT : Tx K mg) (F : Dfn K mg "inverse" 10 ["prime", "number"] f fd) : FnOk PP w K mg base CX0 1 f fd ["prime", "number"] (sp_inverse K T P) := by
  refine F.ok sc_inverse (spF_len fun _ => rfl) fun cdv A outer s H vs Q E hr h => ?_
  refine ⟨_, (pss_one (ps_ret (pe_ix (ixL K) (pe_lc (g := gName 2) (own := [("one", 2)]) (by rfl) sc_inverse.nd (pi_range2 (by rfl) TT.b_range (pa_cons pe_int (pa_cons (pv 0) pa_nil))) (blkOk_by (own := [("one", 2)]) (by rfl)) (fun _ _ _ _ _ => (pg_name (i := 2) sc_inverse.nd rfl (Or.inl rfl))) (fun _ _ _ _ _ => (pts_one (pt_cmpR op_eq (pe_op op_mod (pe_op op_mul (pv 2) (pv 1)) (pv 0)) pe_int (nomark _)))) (fun _ _ _ _ _ => (pv 2))) pe_int (fun _ _ => rfl)))), ?_⟩
  obtain ⟨⟨p, x⟩, W, e, r, g, ⟨hp, h0, h1⟩, k⟩ := h
  dsimp only at hp h0 h1 k r
  have s0 := ss_start (N := ["prime", "number", "one"]) e r g
  have pb := hp.pos
  refine s_ret1 (d := .int (invN p x)) ?_ s0 e fun v W' H2 z rv => k _ _ _ _ rfl z rv
  refine e_op (El.e1 (el_lcF (f := fun i => .int (1 + (i : Int))) (t := fun i : Nat => decide ((1 + (i : Int)) * x % p = 1)) (δ' := fun i => [.d (.int p), .d (.int x), .d (.int (1 + (i : Int)))]) (io_rng2 (m := 1) (n := p) (a_2 e_int (e_var rfl)) (by omega) (by omega)) (fun i hi => tg_name) (by omega) (fun i hi => ?_) (fun i hi => ?_) fun i hi _ => e_var rfl)) e_int (o_ixL ?_)
  · have z : (((List.range i).filter (fun i : Nat => decide ((1 + (i : Int)) * x % p = 1))).map fun i : Nat => D.int (1 + (i : Int))) = (((List.range i).filter (fun i : Nat => decide ((1 + (i : Int)) * x % p = 1))).map fun i : Nat => (1 + (i : Int))).map D.int := by
      rw [List.map_map]
      rfl
    rw [z]
    exact rowD_int _
  · exact t_t (e_op (e_op (e_op (e_var rfl) (e_var rfl) (o_mul (.inr ⟨by omega, by omega⟩))) (e_var rfl) (o_mod (by omega))) e_int o_eqI)
  · have q := (invL_ok hp h0 h1).1
    unfold invL at q
    have z : (((List.range (p - 1).toNat).filter (fun i : Nat => decide ((1 + (i : Int)) * x % p = 1))).map fun i : Nat => D.int (1 + (i : Int))) = (((List.range (p - 1).toNat).filter (fun i : Nat => decide ((1 + (i : Int)) * x % p = 1))).map fun i : Nat => (1 + (i : Int))).map D.int := by
      rw [List.map_map]
      rfl
    rw [z]
    generalize (((List.range (p - 1).toNat).filter (fun i : Nat => decide ((1 + (i : Int)) * x % p = 1))).map fun i : Nat => (1 + (i : Int))) = l at q
    exact atI_nat (j := 0) (by rw [List.getElem?_map, q]; rfl)
/-! ### lead -/
def leadI : List Int → Option Nat
  | [] => none
  | x :: r => if x = 0 then (leadI r).map (· + 1) else some 0
theorem leadI_some : ∀ {ns : List Int} {i : Nat}, (∀ j, j < i → ns.getD j 0 = 0) → ns.getD i 0 ≠ 0 → leadI ns = some i
  | [], i, _, h => absurd (by simp) h
  | x :: r, 0, _, h => by
    have h : x ≠ 0 := h
    unfold leadI
    rw [if_neg h]
  | x :: r, i + 1, h0, h => by
    have e : x = 0 := h0 0 (Nat.succ_pos _)
    unfold leadI
    rw [if_pos e, leadI_some (ns := r) (i := i) (fun j hj => h0 (j + 1) (by omega)) h]
    rfl
theorem leadI_none : ∀ {ns : List Int}, (∀ j, j < ns.length → ns.getD j 0 = 0) → leadI ns = none
  | [], _ => rfl
  | x :: r, h0 => by
    have e : x = 0 := h0 0 (Nat.succ_pos _)
    unfold leadI
    rw [if_pos e, leadI_none (ns := r) (fun j hj => h0 (j + 1) (by show j + 1 < r.length + 1; omega))]
    rfl
theorem leadI_at : ∀ {ns : List Int} {i : Nat}, leadI ns = some i → i < ns.length ∧ ns.getD i 0 ≠ 0 ∧ ∀ j, j < i → ns.getD j 0 = 0
  | [], _, h => by cases h
  | x :: r, i, h => by
    unfold leadI at h
    by_cases e : x = 0
    · rw [if_pos e] at h
      cases q : leadI r with
      | none =>
        rw [q] at h
        cases h
      | some k =>
        rw [q] at h
        cases h
        obtain ⟨h1, h2, h3⟩ := leadI_at q
        refine ⟨Nat.succ_lt_succ h1, h2, fun j hj => ?_⟩
        cases j with
        | zero => exact e
        | succ j =>
          have hj : j + 1 < k + 1 := hj
          exact h3 j (by omega)
    · rw [if_neg e] at h
      cases h
      exact ⟨Nat.succ_pos _, e, fun j hj => absurd hj (Nat.not_lt_zero _)⟩
def leadD (ns : List Int) : D := match leadI ns with
  | some i => .int (i : Int)
  | none => .non
theorem sc_lead : FnScope ["row", "place", "number"] ["row"] (defScope (topS 13)) := ⟨rfl, rfl, rfl, by decide +kernel, rfl, by decide +kernel, by decide +kernel⟩
abbrev sp_lead (K : PySem.W.Frag) (T : List (Addr × Str)) (P : List Addr) : Sp := spF K T P (ι := List Int) (fun i => [rowT i]) (fun _ => True) (fun i d => d = leadD i)
theorem ok_lead {f : Addr} {fd : FuncData} (TT : Tx K mg) (F : Dfn K mg "lead" 13 ["row"] f fd) : FnOk PP w K mg base CX0 1 f fd ["row"] (sp_lead K T P) := by
  refine F.ok sc_lead (spF_len fun _ => rfl) fun cdv A outer s H vs Q E hr h => ?_
  refine ⟨_, (pss_cons (ps_for PassesOwn.never rfl (pi_enumT (by rfl) TT.b_enumerate (pa_cons (pv 0) pa_nil)) (pg_tup (by rfl) (pgs_cons (pg_name (i := 1) sc_lead.nd rfl (Or.inl rfl)) (pgs_cons (pg_name (i := 2) sc_lead.nd rfl (Or.inl rfl)) pgs_nil)))
      (pss_one (ps_if (pt_cmpR op_ne (pv 2) pe_int (nomark _))
      (pss_one (ps_ret (pv 1)))
      pss_nil)))
      (pss_one (ps_ret pe_non))), ?_⟩
  obtain ⟨ns, W, e, r, g, -, k⟩ := h
  dsimp only at k r
  have s0 := ss_start (N := ["row", "place", "number"]) e r g
  refine s_for (io_enumT (a_1 (e_var rfl))) s0 fun n el W2 H2 hz z2 s2 => ⟨fun i σ' W' H' => (∀ j, j < i → ns.getD j 0 = 0) ∧ Ex K T W2 W' ∧ ∃ s1 s2, SS K T P W W H W' H' [.d (rowT ns), s1, s2] σ', ?_, ?_, ?_, ?_⟩
  · exact ⟨fun j hj => absurd hj (Nat.not_lt_zero _), Ex.refl _, _, _, s2⟩
  · rintro i σ' W' H' _ ⟨_, e1, s1, s2, ss⟩
    exact ⟨e1, _, ss⟩
  · rintro i σ' W' H' hi ⟨hj, e1, s1, s2, ss⟩
    obtain ⟨rfl, rfl⟩ := hz
    rw [List.length_map] at hi
    refine ⟨_, [.d (rowT ns), .d (.int (i : Int)), .d (.int (ns.getD i 0))], [1, 2], ss, ?_, fun σ2 W5 H5 z5 s5 => ?_⟩
    · refine Tg.cast (d' := .tup [.int (i : Int), .int (ns.getD i 0)]) ?_ tg_pair
      show D.tup [_, (ns.map D.int).getD i .non] = _
      rw [getD_int hi]
    · refine s_if1 (t_t (e_op (e_var rfl) e_int o_neI)) s5 (fun hb H6 e6 s6 => ?_) (fun hb H6 e6 s6 => ?_)
      · refine s_ret1 (d := .int (i : Int)) (e_var rfl) s6 e fun v W' H2 z rv => k _ _ _ _ ?_ z rv
        unfold leadD
        rw [leadI_some hj (by simpa using hb)]
      · refine ⟨W5, fun j hj' => ?_, e1.trans z5.up, _, _, s6⟩
        by_cases q : j = i
        · subst q
          simpa using hb
        · exact hj j (by omega)
  · rintro σ' W' H' ⟨hj, e1, s1, s2, ss⟩
    obtain ⟨rfl, rfl⟩ := hz
    rw [List.length_map] at hj
    refine s_ret1 (D0 := { nx := fun _ H' => Q .non H', rt := Q }) (d := .non) e_non ss e fun v W' H2 z rv => k _ _ _ _ ?_ z rv
    unfold leadD
    rw [leadI_none hj]
end K11
/-! K11M: plain laws of the reduction of rows. -/
namespace K11
def inR (p : Int) (l : List Int) : Prop := ∀ x ∈ l, 0 ≤ x ∧ x < p
theorem map_get {n i : Nat} {f : Nat → Int} : ((List.range n).map f).getD i 0 = if i < n then f i else 0 := by
  rw [List.getD_eq_getElem?_getD, List.getElem?_map]
  by_cases h : i < n
  · rw [List.getElem?_range h, if_pos h]
    rfl
  · rw [if_neg h, List.getElem?_eq_none (by simpa using h)]
    rfl
theorem addR_get {p f : Int} {xs ys : List Int} {i : Nat} (h : i < xs.length) : (addR p xs ys f).getD i 0 = (xs.getD i 0 + f * ys.getD i 0) % p := by
  unfold addR
  rw [map_get, if_pos h]
theorem addR_len {p f : Int} {xs ys : List Int} : (addR p xs ys f).length = xs.length := by
  unfold addR
  rw [List.length_map, List.length_range]
theorem addR_in {p f : Int} {xs ys : List Int} (hp : 0 < p) : inR p (addR p xs ys f) := fun x hx => by
  unfold addR at hx
  obtain ⟨i, _, rfl⟩ := List.mem_map.mp hx
  exact ⟨Int.emod_nonneg _ (by omega), Int.emod_lt_of_pos _ hp⟩
theorem sclR_get {p f : Int} {xs : List Int} {i : Nat} (h : i < xs.length) : (sclR p xs f).getD i 0 = (f * xs.getD i 0) % p := by
  unfold sclR
  rw [map_get, if_pos h]
theorem sclR_len {p f : Int} {xs : List Int} : (sclR p xs f).length = xs.length := by
  unfold sclR
  rw [List.length_map, List.length_range]
theorem sclR_in {p f : Int} {xs : List Int} (hp : 0 < p) : inR p (sclR p xs f) := fun x hx => by
  unfold sclR at hx
  obtain ⟨i, _, rfl⟩ := List.mem_map.mp hx
  exact ⟨Int.emod_nonneg _ (by omega), Int.emod_lt_of_pos _ hp⟩
theorem inR_get {p : Int} {l : List Int} (h : inR p l) (hp : 0 < p) (i : Nat) : 0 ≤ l.getD i 0 ∧ l.getD i 0 < p := getD_all (Pp := fun x => 0 ≤ x ∧ x < p) h ⟨Int.le_refl _, hp⟩ i
def kOf (own : List Int) : Nat := (leadI own).getD 0
def elimR (p : Int) (row : List Int) (found : List (List Int)) : List Int := found.foldl (fun r own => addR p r own (-(r.getD (kOf own) 0))) row
def stepR (p : Int) (found : List (List Int)) (row : List Int) : List (List Int) :=
  match leadI (elimR p row found) with
  | none => found
  | some k => found.map (fun own => addR p own (sclR p (elimR p row found) (invN p ((elimR p row found).getD k 0))) (-(own.getD k 0))) ++ [sclR p (elimR p row found) (invN p ((elimR p row found).getD k 0))]
def redR (p : Int) (rows : List (List Int)) : List (List Int) := rows.foldl (stepR p) []
structure RowOk (p : Int) (m : Nat) (own : List Int) : Prop where
  len : own.length = m
  rng : inR p own
structure FInv (p : Int) (m : Nat) (found : List (List Int)) : Prop where
  row : ∀ own ∈ found, RowOk p m own ∧ leadI own = some (kOf own) ∧ own.getD (kOf own) 0 = 1
  apart : found.Pairwise fun a b => a.getD (kOf b) 0 = 0 ∧ b.getD (kOf a) 0 = 0
theorem kOf_lt {p : Int} {m : Nat} {own : List Int} (h : RowOk p m own) (l : leadI own = some (kOf own)) : kOf own < m := by
  have k := (leadI_at l).1
  rw [h.len] at k
  exact k
theorem elim_one {p : Int} {m : Nat} {r own : List Int} (hp : 0 < p) (hr : RowOk p m r) (f : Int) : RowOk p m (addR p r own f) := ⟨by rw [addR_len]; exact hr.len, addR_in hp⟩
theorem elim_ok {p : Int} {m : Nat} (hp : 0 < p) : ∀ (rest fin : List (List Int)) (r : List Int), RowOk p m r → FInv p m (fin ++ rest) → (∀ a ∈ fin, r.getD (kOf a) 0 = 0) →
    RowOk p m (elimR p r rest) ∧ ∀ a ∈ fin ++ rest, (elimR p r rest).getD (kOf a) 0 = 0
  | [], fin, r, hr, F, h => ⟨hr, fun a ha => h a (by simpa using ha)⟩
  | own :: rest, fin, r, hr, F, h => by
    have F' : FInv p m ((fin ++ [own]) ++ rest) := by
      rw [List.append_assoc]
      exact F
    obtain ⟨ho, lo, eo⟩ := F.row own (by simp)
    have kl := kOf_lt ho lo
    have r1 := elim_one (own := own) hp hr (-(r.getD (kOf own) 0))
    have apart := F.apart
    rw [List.pairwise_append] at apart
    have key : ∀ a ∈ fin ++ [own], (addR p r own (-(r.getD (kOf own) 0))).getD (kOf a) 0 = 0 := by
      intro a ha
      obtain ⟨ha', la, _⟩ := F.row a (by
        rcases List.mem_append.mp ha with ha | ha
        · exact List.mem_append_left _ ha
        · rw [List.mem_singleton.mp ha]
          simp)
      have ka := kOf_lt ha' la
      rw [addR_get (by rw [hr.len]; exact ka)]
      rcases List.mem_append.mp ha with ha | ha
      · rw [h a ha, (apart.2.2 a ha own (List.mem_cons_self ..)).2]
        simp
      · rw [List.mem_singleton.mp ha, eo]
        have e : r.getD (kOf own) 0 + -(r.getD (kOf own) 0) * 1 = 0 := by omega
        rw [e]
        rfl
    have k := elim_ok hp rest (fin ++ [own]) _ r1 F' key
    refine ⟨k.1, fun a ha => k.2 a ?_⟩
    rw [List.append_assoc]
    exact ha
theorem step_ok {p : Int} {m : Nat} {found : List (List Int)} {row : List Int} (hp : isPr p) (F : FInv p m found) (hr : RowOk p m row) : FInv p m (stepR p found row) := by
  have pp := hp.pos
  have p0 : 0 < p := by omega
  obtain ⟨h1, h2⟩ := elim_ok p0 found [] row hr F (fun a ha => by cases ha)
  unfold stepR
  split
  · exact F
  · rename_i k hk
    generalize elimR p row found = r at h1 h2 hk ⊢
    obtain ⟨k1, k2, k3⟩ := leadI_at hk
    have km : k < m := by rw [← h1.len]; exact k1
    obtain ⟨g1, g2⟩ := inR_get h1.rng p0 k
    obtain ⟨_, _, _, gi⟩ := invL_ok hp (x := r.getD k 0) (by omega) g2
    generalize hq : sclR p r (invN p (r.getD k 0)) = q
    have ql : RowOk p m q := by
      rw [← hq]
      exact ⟨by rw [sclR_len]; exact h1.len, sclR_in p0⟩
    have qk : q.getD k 0 = 1 := by
      rw [← hq, sclR_get k1]
      exact gi
    have qz : ∀ j, j < m → r.getD j 0 = 0 → q.getD j 0 = 0 := fun j hj e => by
      rw [← hq, sclR_get (by rw [h1.len]; exact hj), e]
      simp
    have qlead : leadI q = some k := leadI_some (fun j hj => qz j (by omega) (k3 j hj)) (by rw [qk]; decide)
    have qK : kOf q = k := by
      unfold kOf
      rw [qlead]
      rfl
    -- a row that was found
    have old : ∀ a ∈ found, RowOk p m (addR p a q (-(a.getD k 0))) ∧ leadI (addR p a q (-(a.getD k 0))) = some (kOf a) := by
      intro a ha
      obtain ⟨ra, la, ea⟩ := F.row a ha
      have ka := kOf_lt ra la
      refine ⟨elim_one p0 ra _, leadI_some (fun j hj => ?_) ?_⟩
      · have z : a.getD j 0 = 0 := (leadI_at la).2.2 j hj
        rw [addR_get (by rw [ra.len]; omega), z]
        by_cases hjk : j < k
        · rw [qz j (by omega) (k3 j hjk)]
          simp
        · have z2 : a.getD k 0 = 0 := (leadI_at la).2.2 k (by omega)
          rw [z2]
          simp
      · rw [addR_get (by rw [ra.len]; exact ka), ea, qz _ ka (h2 a (by simpa using ha))]
        have e : (1 + -(a.getD k 0) * 0) % p = 1 := by
          rw [Int.mul_zero, Int.add_zero]
          exact Int.emod_eq_of_lt (by decide) (by omega)
        rw [e]
        decide
    have oldK : ∀ a ∈ found, kOf (addR p a q (-(a.getD k 0))) = kOf a := fun a ha => by
      conv => lhs; unfold kOf
      rw [(old a ha).2]
      rfl
    refine ⟨fun own ho => ?_, ?_⟩
    · rcases List.mem_append.mp ho with ho | ho
      · obtain ⟨a, ha, rfl⟩ := List.mem_map.mp ho
        obtain ⟨ra, la, ea⟩ := F.row a ha
        have ka := kOf_lt ra la
        refine ⟨(old a ha).1, by rw [(old a ha).2, oldK a ha], ?_⟩
        rw [oldK a ha, addR_get (by rw [ra.len]; exact ka), ea, qz _ ka (h2 a (by simpa using ha)), Int.mul_zero, Int.add_zero]
        exact Int.emod_eq_of_lt (by decide) (by omega)
      · rw [List.mem_singleton.mp ho]
        exact ⟨ql, by rw [qlead, qK], by rw [qK]; exact qk⟩
    · rw [List.pairwise_append, List.pairwise_map]
      refine ⟨List.Pairwise.imp_of_mem (fun {a b} ha hb hab => ?_) F.apart, List.pairwise_singleton _ _, fun a' ha' b hb => ?_⟩
      · obtain ⟨ra, la, _⟩ := F.row a ha
        obtain ⟨rb, lb, _⟩ := F.row b hb
        have ka := kOf_lt ra la
        have kb := kOf_lt rb lb
        rw [oldK a ha, oldK b hb, addR_get (by rw [ra.len]; exact kb), addR_get (by rw [rb.len]; exact ka), hab.1, hab.2, qz _ kb (h2 b (by simpa using hb)), qz _ ka (h2 a (by simpa using ha))]
        simp
      · obtain ⟨a, ha, rfl⟩ := List.mem_map.mp ha'
        rw [List.mem_singleton.mp hb]
        obtain ⟨ra, la, _⟩ := F.row a ha
        have ka := kOf_lt ra la
        rw [oldK a ha, qK, addR_get (by rw [ra.len]; exact km), qk]
        refine ⟨?_, qz _ ka (h2 a (by simpa using ha))⟩
        have e : a.getD k 0 + -(a.getD k 0) * 1 = 0 := by omega
        rw [e]
        rfl
theorem finv_nil (p : Int) (m : Nat) : FInv p m [] := ⟨fun _ h => (by cases h), List.Pairwise.nil⟩
theorem step_len (p : Int) (found : List (List Int)) (row : List Int) : (stepR p found row).length ≤ found.length + 1 := by
  unfold stepR
  split
  · omega
  · rw [List.length_append, List.length_map]
    exact Nat.le_refl _
end K11
/-! K11J: reduced, is_undone. -/
namespace K11
open PySem PySem.Spec PyProof.Rows
open L2
theorem at_row {ns : List Int} {k : Nat} (h : k < ns.length) : atI (ns.map D.int) (k : Int) = some (.int (ns.getD k 0)) :=
  atI_nat (by rw [List.getElem?_map, List.getElem?_eq_getElem h, List.getD_eq_getElem?_getD, List.getElem?_eq_getElem h]; rfl)
theorem getD_rows {rs : List (List Int)} {i : Nat} (h : i < rs.length) : (rs.map rowT).getD i .non = rowT (rs.getD i []) := by
  rw [List.getD_eq_getElem?_getD, List.getElem?_map, List.getElem?_eq_getElem h, List.getD_eq_getElem?_getD, List.getElem?_eq_getElem h]
  rfl
theorem rowD_rows : ∀ rs : List (List Int), rowD (rs.map rowT) = false
  | [] => rfl
  | [_] => rfl
  | [_, _] => rfl
  | [_, _, _] => rfl
  | [_, _, _, _] => rfl
  | _ :: _ :: _ :: _ :: _ :: _ => rfl
theorem take_get {α : Type} (l : List α) (d : α) {i : Nat} (h : i < l.length) : l.take (i + 1) = l.take i ++ [l.getD i d] := by
  rw [List.take_succ, List.getD_eq_getElem?_getD, List.getElem?_eq_getElem h]
  rfl
theorem getD_mem {α : Type} {l : List α} {d : α} {i : Nat} (h : i < l.length) : l.getD i d ∈ l := by
  rw [List.getD_eq_getElem?_getD, List.getElem?_eq_getElem h]
  exact List.getElem_mem h
section
variable {K : PySem.W.Frag} {T : List (Addr × Str)} {P : List Addr} {B : Hp} {δ : List Sl} {ta : TA}
theorem rpl_perm {H : Hp} {xs ys : List V} (hp : ys.Perm xs) : ∀ {l : List D}, RpL K H l xs → ∃ l', l'.Perm l ∧ RpL K H l' ys := by
  induction hp with
  | nil => exact fun {l} h => ⟨l, List.Perm.refl _, h⟩
  | @cons x a b _ ih =>
    intro l h
    cases l with
    | nil => exact False.elim h
    | cons d l =>
      obtain ⟨l', h1, h2⟩ := ih h.2
      exact ⟨d :: l', h1.cons d, h.1, h2⟩
  | swap x y a =>
    intro l h
    match l, h with
    | d :: e :: l, h => exact ⟨e :: d :: l, List.Perm.swap d e l, h.2.1, h.1, h.2.2⟩
  | trans _ _ ih1 ih2 =>
    intro l h
    obtain ⟨l1, p1, h1⟩ := ih2 h
    obtain ⟨l2, p2, h2⟩ := ih1 h1
    exact ⟨l2, p2.trans p1, h2⟩
theorem rp_row {H : Hp} {ns : List Int} {v : V} (h : Rp K H (rowT ns) v) : TupI K H v ns := by
  obtain ⟨a, xs, rfl, hs, hl⟩ := h
  have e : xs = ns.map V.int := by
    clear hs
    induction ns generalizing xs with
    | nil =>
      cases xs with
      | nil => rfl
      | cons _ _ => exact False.elim hl
    | cons n ns ih =>
      cases xs with
      | nil => exact False.elim hl
      | cons x xs =>
        obtain ⟨h1, h2⟩ := hl
        rw [List.map_cons, ih _ h2, (show x = V.int n from h1)]
  rw [e] at hs
  exact ⟨a, rfl, hs⟩
theorem rpl_mem {H : Hp} : ∀ {l : List D} {xs : List V} {x : V}, RpL K H l xs → x ∈ xs → ∃ d ∈ l, Rp K H d x
  | d :: l, y :: xs, x, ⟨h1, h2⟩, hm => by
    rcases List.mem_cons.mp hm with rfl | hm
    · exact ⟨d, List.mem_cons_self .., h1⟩
    · obtain ⟨d', m, r⟩ := rpl_mem h2 hm
      exact ⟨d', List.mem_cons_of_mem _ m, r⟩
  | [], [], x, _, hm => by cases hm
  | [], _ :: _, _, h, _ => False.elim h
  | _ :: _, [], _, h, _ => False.elim h
theorem e_sortR {d : Nat} {rs : List (List Int)} (ha : Ea1 K T P B ta δ [.lst (rs.map rowT)]) (hr : ∀ r ∈ rs, r.length = d ∧ inR 8 r) :
    E K T P B (tCKw (rSortR K d 8) ta (tCons (tC (.bl true)) tNil)) δ (fun x => ∃ l, x = .lst l ∧ l.length = rs.length) := fun σ W R H1 e Q q => ha σ W R H1 e _ fun ds vs W2 H2 hd z rv => by
  subst hd
  obtain ⟨v, rfl, r1⟩ := rpl_1 rv
  obtain ⟨p, xs, rfl, hs, g, hl⟩ := r1
  refine ⟨p, xs, rfl, rfl, SqL.of (z.to.keep _ _ hs g), fun x hx => ?_, fun ys y hp hy => ?_⟩
  · obtain ⟨dd, hm, hr1⟩ := rpl_mem hl hx
    obtain ⟨r, hrm, rfl⟩ := List.mem_map.mp hm
    exact ⟨r, rp_row (ex_rp z.to _ _ hr1), (hr r hrm).1, (hr r hrm).2⟩
  · obtain ⟨l', p1, h1⟩ := rpl_perm hp hl
    have u := Vw.new (o := .lst ys) z.to hy
    refine q (.lst l') _ _ _ ⟨l', rfl, by rw [p1.length_eq, List.length_map]⟩ (z.trans u) ⟨y, ys, rfl, wv_new hy, ?_, ex_rpl u.up _ _ h1⟩
    refine rowish_of h1 ?_
    have al : ∀ x ∈ l', ∃ ns, x = .tup ns := fun x hx => by
      obtain ⟨r, _, rfl⟩ := List.mem_map.mp (p1.mem_iff.mp hx)
      exact ⟨_, rfl⟩
    unfold rowD
    split
    · obtain ⟨_, e⟩ := al (.int _) (List.mem_cons_of_mem _ (List.mem_cons_self ..))
      cases e
    · obtain ⟨_, e⟩ := al (.int _) (List.mem_cons_of_mem _ (List.mem_cons_self ..))
      cases e
    · obtain ⟨_, e⟩ := al (.int _) (List.mem_cons_of_mem _ (List.mem_cons_self ..))
      cases e
    · rfl
end
variable {PP : Program} {w : World} {K : PySem.W.Frag} {T : List (Addr × Str)} {P : List Addr} {mg : Str → Option Value} {base : Heap}
theorem sc_reduced : FnScope ["prime", "rows", "found", "row", "own", "place"] ["prime", "rows"] (defScope (topS 14)) := ⟨rfl, rfl, rfl, by decide +kernel, rfl, by decide +kernel, by decide +kernel⟩
abbrev sp_reduced (K : PySem.W.Frag) (T : List (Addr × Str)) (P : List Addr) : Sp := spF K T P (ι := Int × List (List Int)) (fun i => [.int i.1, .tup (i.2.map rowT)])
  (fun i => isPr i.1 ∧ i.2.length ≤ 100 ∧ ∃ m, 1 ≤ m ∧ m ≤ 100 ∧ ∀ r ∈ i.2, RowOk i.1 m r) (fun i d => ∃ l, d = .lst l ∧ l.length = (redR i.1 i.2).length)
theorem ok_reduced {f f1 f2 f3 f4 : Addr} {fd fd1 fd2 fd3 fd4 : FuncData} (TT : Tx K mg) (F : Dfn K mg "reduced" 14 ["prime", "rows"] f fd)
    (D_added : Dfn K mg "added" 11 ["prime", "one", "other", "factor"] f1 fd1) (G_added : FnOk PP w K mg base CX0 1 f1 fd1 ["prime", "one", "other", "factor"] (sp_added K T P))
    (D_scaled : Dfn K mg "scaled" 12 ["prime", "row", "factor"] f2 fd2) (G_scaled : FnOk PP w K mg base CX0 1 f2 fd2 ["prime", "row", "factor"] (sp_scaled K T P))
    (D_lead : Dfn K mg "lead" 13 ["row"] f3 fd3) (G_lead : FnOk PP w K mg base CX0 1 f3 fd3 ["row"] (sp_lead K T P))
    (D_inverse : Dfn K mg "inverse" 10 ["prime", "number"] f4 fd4) (G_inverse : FnOk PP w K mg base CX0 1 f4 fd4 ["prime", "number"] (sp_inverse K T P)) :
    FnOk PP w K mg base CX0 2 f fd ["prime", "rows"] (sp_reduced K T P) := by
  refine F.ok sc_reduced (spF_len fun _ => rfl) fun cdv A outer s H vs Q E hr h => ?_
  obtain ⟨⟨p, rows⟩, W, e, r, g, ⟨hp, hz, m, hm1, hm2, hrow⟩, k⟩ := h
  dsimp only at hp hz hrow k r
  refine ⟨_, (pss_cons (ps_set (i := 2) sc_reduced.nd rfl (Or.inl rfl) (pe_lst pa_nil))
      (pss_cons (ps_for PassesOwn.never rfl (piT K (pv 1)) (pg_name (i := 3) sc_reduced.nd rfl (Or.inr rfl))
      (pss_cons (ps_for PassesOwn.never rfl (piL K (pv 2)) (pg_name (i := 4) sc_reduced.nd rfl (Or.inl rfl))
      (pss_one (ps_set (i := 3) sc_reduced.nd rfl (Or.inr rfl) (pe_call G_added (hr.mono (by decide)) (by rfl) D_added.mg D_added.kp D_added.b .nil pass0 (pa_cons (pv 0) (pa_cons (pv 3) (pa_cons (pv 4) (pa_cons (pe_un un_neg (pe_ix (ixT K) (pv 3) (pe_call G_lead (hr.mono (by decide)) (by rfl) D_lead.mg D_lead.kp D_lead.b .nil pass0 (pa_cons (pv 4) pa_nil)) (fun _ _ => rfl))) pa_nil))))))))
      (pss_cons (ps_set (i := 5) sc_reduced.nd rfl (Or.inr rfl) (pe_call G_lead (hr.mono (by decide)) (by rfl) D_lead.mg D_lead.kp D_lead.b .nil pass0 (pa_cons (pv 3) pa_nil)))
      (pss_one (ps_if (pt_cmpR op_notN (pv 5) pe_non (nomark _))
      (pss_cons (ps_set (i := 3) sc_reduced.nd rfl (Or.inr rfl) (pe_call G_scaled (hr.mono (by decide)) (by rfl) D_scaled.mg D_scaled.kp D_scaled.b .nil pass0 (pa_cons (pv 0) (pa_cons (pv 3) (pa_cons (pe_call G_inverse (hr.mono (by decide)) (by rfl) D_inverse.mg D_inverse.kp D_inverse.b .nil pass0 (pa_cons (pv 0) (pa_cons (pe_ix (ixT K) (pv 3) (pv 5) (fun _ _ => rfl)) pa_nil))) pa_nil)))))
      (pss_one (ps_set (i := 2) sc_reduced.nd rfl (Or.inl rfl) (pe_op op_cat (pe_lc (g := gName 4) (own := [("own", 4)]) (by rfl) sc_reduced.nd (piL K (pv 2)) (blkOk_by (own := [("own", 4)]) (by rfl)) (fun _ _ _ _ _ => (pg_name (i := 4) sc_reduced.nd rfl (Or.inl rfl))) (fun _ _ _ _ _ => pts_nil) (fun _ _ _ _ _ => (pe_call G_added (hr.mono (by decide)) (by rfl) D_added.mg D_added.kp D_added.b .nil pass0 (pa_cons (pv 0) (pa_cons (pv 4) (pa_cons (pv 3) (pa_cons (pe_un un_neg (pe_ix (ixT K) (pv 4) (pv 5) (fun _ _ => rfl))) pa_nil))))))) (pe_lst (pa_cons (pv 3) pa_nil))))))
      pss_nil)))))
      (pss_one (ps_ret (pe_callBK (cr_sortR (d := m) (B := 8) hm1) (by rfl) TT.b_sorted (by decide +kernel) (pa_cons (pv 2) pa_nil) (pk_cons pe_bl pk_nil)))))), ?_⟩
  have pb := hp.pos
  have p0 : 0 < p := by omega
  have s0 := ss_start (N := ["prime", "rows", "found", "row", "own", "place"]) e r g
  refine s_asg1 (d := .lst []) (e_lst a_nil) s0 fun v1 W1 H1 z1 s1 => ?_
  refine s_for (io_tup (e_var rfl)) s1 fun n el W2 H2 hzz z2 s2 => ⟨fun i σ' W' H' => ∃ fl : List (List Int), fl = (rows.take i).foldl (stepR p) [] ∧ FInv p m fl ∧ fl.length ≤ i ∧ Ex K T W2 W' ∧ ∃ a b c, SS K T P W W H W' H' [.d (.int p), .d (.tup (rows.map rowT)), .d (.lst (fl.map rowT)), a, b, c] σ', ?_, ?_, ?_, ?_⟩
  · exact ⟨[], rfl, finv_nil p m, Nat.le_refl _, Ex.refl _, _, _, _, s2⟩
  · rintro i σ' W' H' _ ⟨fl, _, _, _, e1, a, b, c, ss⟩
    exact ⟨e1, _, ss⟩
  · rintro i σ' W' H' hi ⟨fl, hfl, F1, hlen, e1, a, b, c, ss⟩
    obtain ⟨rfl, rfl⟩ := hzz
    rw [List.length_map] at hi
    have hri := hrow _ (getD_mem (d := []) hi)
    generalize hrr : rows.getD i [] = row at hri
    refine ⟨_, [.d (.int p), .d (.tup (rows.map rowT)), .d (.lst (fl.map rowT)), .d (rowT row), b, c], [3], ss, Tg.cast (d' := rowT row) ?_ tg_name, fun σ2 W5 H5 z5 s5 => ?_⟩
    · show (rows.map rowT).getD i .non = _
      rw [getD_rows hi, hrr]
    -- the inner loop
    refine s_for (io_list (e_var rfl)) s5 fun n el W6 H6 hzz z6 s6 => ⟨fun j σ' W' H' => ∃ row1 : List Int, row1 = elimR p row (fl.take j) ∧ RowOk p m row1 ∧ Ex K T W6 W' ∧ ∃ b, SS K T P W W H W' H' [.d (.int p), .d (.tup (rows.map rowT)), .d (.lst (fl.map rowT)), .d (rowT row1), b, c] σ', ?_, ?_, ?_, ?_⟩
    · exact ⟨row, rfl, hri, Ex.refl _, _, s6⟩
    · rintro j σ' W' H' _ ⟨_, _, _, e1, b, ss⟩
      exact ⟨e1, _, ss⟩
    · rintro j σ3 W7 H7 hj ⟨row1, hr1, ok1, e7, b7, s7⟩
      obtain ⟨rfl, rfl⟩ := hzz
      rw [List.length_map] at hj
      obtain ⟨oo, ol, o1⟩ := F1.row _ (getD_mem (d := []) hj)
      generalize hoo : fl.getD j [] = own at oo ol o1
      have ok := kOf_lt oo ol
      refine ⟨_, [.d (.int p), .d (.tup (rows.map rowT)), .d (.lst (fl.map rowT)), .d (rowT row1), .d (rowT own), c], [4], s7, Tg.cast (d' := rowT own) ?_ tg_name, fun σ4 W8 H8 z8 s8 => ?_⟩
      · show (fl.map rowT).getD j .non = _
        rw [getD_rows hj, hoo]
      refine s_asg1 (d := rowT (addR p row1 own (-(row1.getD (kOf own) 0)))) (e_call (p, row1, own, -(row1.getD (kOf own) 0)) (a_cons (e_var rfl) (a_cons (e_var rfl) (a_cons (e_var rfl) (a_1 (e_neg (e_op (e_var rfl) (E1.is (e_call own (a_1 (e_var rfl)) trivial) ?_) (o_ixT (at_row ?_)))))))) ⟨p0, ?_, ?_, ?_⟩) s8 fun v9 W9 H9 z9 s9 => ?_
      · unfold leadD
        rw [ol]
      · rw [ok1.len]
        exact ok
      · rw [ok1.len, oo.len]
      · show row1.length ≤ 1000
        rw [ok1.len]
        omega
      · intro y hy
        have q := oo.rng y hy
        omega
      · refine ⟨W9, _, ?_, elim_one p0 ok1 _, e7.trans (z8.up.trans z9.up), _, s9⟩
        rw [take_get fl [] hj, hr1, hoo]
        unfold elimR
        rw [List.foldl_append]
        rfl
    · rintro σ3 W7 H7 ⟨row1, hr1, ok1, e7, b7, s7⟩
      obtain ⟨rfl, rfl⟩ := hzz
      rw [List.length_map, List.take_length] at hr1
      -- place = lead(row)
      dsimp only
      refine s_asg1 (d := leadD row1) (e_call row1 (a_1 (e_var rfl)) trivial) s7 fun v8 W8 H8 z8 s8 => ?_
      have hstep : (rows.take (i + 1)).foldl (stepR p) [] = stepR p fl row := by
        rw [take_get rows [] hi, List.foldl_append, ← hfl, hrr]
        rfl
      have Fs := step_ok hp F1 hri
      have Ls := step_len p fl row
      refine s_if1 (t_t (e_op (e_var rfl) e_non o_notN)) s8 (fun hb H9 e9 s9 => ?_) (fun hb H9 e9 s9 => ?_)
      · cases hl : leadI row1 with
        | none =>
          unfold leadD at hb
          rw [hl] at hb
          cases hb
        | some kk =>
          have hl' : leadI (elimR p row fl) = some kk := by rw [← hr1]; exact hl
          have dk : leadD row1 = .int (kk : Int) := by
            unfold leadD
            rw [hl]
          rw [dk] at s9
          obtain ⟨k1, k2, _⟩ := leadI_at hl
          obtain ⟨g1, g2⟩ := inR_get ok1.rng p0 kk
          have est : stepR p fl row = fl.map (fun own => addR p own (sclR p row1 (invN p (row1.getD kk 0))) (-(own.getD kk 0))) ++ [sclR p row1 (invN p (row1.getD kk 0))] := by
            unfold stepR
            rw [hl', ← hr1]
          refine s_asg1 (d := rowT (sclR p row1 (invN p (row1.getD kk 0)))) (e_call (p, row1, invN p (row1.getD kk 0)) (a_3 (e_var rfl) (e_var rfl) (e_call (p, row1.getD kk 0) (a_2 (e_var rfl) (e_op (e_var rfl) (e_var rfl) (o_ixT (at_row k1)))) ⟨hp, by show 0 < row1.getD kk 0; omega, g2⟩)) ⟨p0, ?_, ?_⟩) s9 fun v10 W10 H10 z10 s10 => ?_
          · show row1.length ≤ 1000
            rw [ok1.len]
            omega
          · intro y hy
            have q := ok1.rng y hy
            omega
          generalize hq : sclR p row1 (invN p (row1.getD kk 0)) = q at est s10
          have ql : q.length = m := by rw [← hq, sclR_len, ok1.len]
          have qr : inR p q := by rw [← hq]; exact sclR_in p0
          have km : kk < m := by rw [← ok1.len]; exact k1
          dsimp only
          refine s_asg1 (d := .lst ((stepR p fl row).map rowT)) ?_ s10 fun v11 W11 H11 z11 s11 => ?_
          · rw [est, List.map_append]
            refine e_op (El.e1 (l := (fl.map (fun own => addR p own q (-(own.getD kk 0)))).map rowT) ?_) (e_lst (a_1 (e_var rfl)) (hl := by show 1 ≤ 100000; omega)) (o_cat ?_ ?_)
            · have hlen2 : (fl.map rowT).length = fl.length := List.length_map ..
              have hmap : (fl.map (fun own => addR p own q (-(own.getD kk 0)))).map rowT = (List.range (fl.map rowT).length).map (fun i => rowT (addR p (fl.getD i []) q (-((fl.getD i []).getD kk 0)))) := by
                rw [hlen2, List.map_map]
                apply List.ext_getElem
                · simp
                · intro i h1 h2
                  simp only [List.getElem_map, List.getElem_range, Function.comp]
                  have hi1 : i < fl.length := by simpa using h1
                  have z : fl.getD i [] = fl[i] := by
                    rw [List.getD_eq_getElem?_getD, List.getElem?_eq_getElem hi1]
                    rfl
                  rw [z]
              rw [hmap]
              refine el_lcM (δ' := fun i => [.d (.int p), .d (.tup (rows.map rowT)), .d (.lst (fl.map rowT)), .d (rowT q), .d (rowT (fl.getD i [])), .d (.int (kk : Int))]) (io_list (e_var rfl)) (fun i hi => Tg.cast (d' := rowT (fl.getD i [])) ?_ tg_name) (by rw [hlen2]; omega) (fun i hi => ?_) fun i hi => ?_
              · rw [hlen2] at hi
                exact getD_rows hi
              · have z : (List.range i).map (fun i => rowT (addR p (fl.getD i []) q (-((fl.getD i []).getD kk 0)))) = ((List.range i).map (fun i => addR p (fl.getD i []) q (-((fl.getD i []).getD kk 0)))).map rowT := by
                  rw [List.map_map]
                  rfl
                rw [z]
                exact rowD_rows _
              · rw [hlen2] at hi
                obtain ⟨oo, ol, o1⟩ := F1.row _ (getD_mem (d := []) hi)
                refine e_call (p, fl.getD i [], q, -((fl.getD i []).getD kk 0)) (a_cons (e_var rfl) (a_cons (e_var rfl) (a_cons (e_var rfl) (a_1 (e_neg (e_op (e_var rfl) (e_var rfl) (o_ixT (at_row (by rw [oo.len]; exact km))))))))) ⟨p0, ?_, ?_, fun y hy => ?_⟩
                · rw [oo.len, ql]
                · show (fl.getD i []).length ≤ 1000
                  rw [oo.len]
                  omega
                · have z := qr y hy
                  omega
            · rw [List.length_map, List.length_map]
              show fl.length + 1 ≤ 100000
              omega
            · have z : (fl.map (fun own => addR p own q (-(own.getD kk 0)))).map rowT ++ [rowT q] = (fl.map (fun own => addR p own q (-(own.getD kk 0))) ++ [q]).map rowT := by
                rw [List.map_append]
                rfl
              rw [z]
              exact rowD_rows _
          · exact ⟨W11, stepR p fl row, hstep.symm, Fs, by omega, e1.trans (z5.up.trans (z6.up.trans (e7.trans (z8.up.trans (z10.up.trans z11.up))))), _, _, _, s11⟩
      · have hl : leadI (elimR p row fl) = none := by
          rw [← hr1]
          cases hl : leadI row1 with
          | none => rfl
          | some kk =>
            unfold leadD at hb
            rw [hl] at hb
            cases hb
        have est : stepR p fl row = fl := by
          unfold stepR
          rw [hl]
        refine ⟨W8, fl, ?_, F1, by omega, e1.trans (z5.up.trans (z6.up.trans (e7.trans z8.up))), _, _, _, s9⟩
        rw [hstep, est]
  · rintro σ' W' H' ⟨fl, hfl, F1, hlen, e1, a, b, c, ss⟩
    obtain ⟨rfl, rfl⟩ := hzz
    rw [List.length_map, List.take_length] at hfl
    refine s_ret (D0 := { nx := fun _ H' => Q .non H', rt := Q }) (e_sortR (d := m) (rs := fl) (a_1 (e_var rfl)) fun r hr => ?_) ss e fun d v W' H2 hd z rv => k _ _ _ _ ?_ z rv
    · obtain ⟨ro, _⟩ := F1.row r hr
      refine ⟨ro.len, fun x hx => ?_⟩
      have q := ro.rng x hx
      omega
    · obtain ⟨l, h1, h2⟩ := hd
      refine ⟨l, h1, ?_⟩
      rw [h2, hfl]
      rfl
end K11
/-! K11N: the draws. -/
namespace K11
open PySem PySem.Spec PyProof.Rows
open L2
/-- a reading that changes nothing and yields v -/
def RV (te : TE) (σ : L2.St) (H : Hp) (v : V) : Prop := ∀ Q : VK, Q v H → te σ H Q
section
variable {σ : L2.St} {H : Hp} {ta tb te : TE} {x y z v : V} {r : R2} {i j : Int}
theorem rd_var {n : Nat} (h : σ[n]? = some (some v)) : RV (tVar n) σ H v := fun _ q => ⟨v, h, q⟩
theorem rd_c : RV (tC v) σ H v := fun _ q => q
theorem rd_op (ha : RV ta σ H x) (hb : RV tb σ H y) (hr : ∀ Q : VK, Q z H → r x y H Q) : RV (tOp r ta tb) σ H z := fun Q q => ha _ (hb _ (hr Q q))
theorem rd_I {C : Int → Int → Prop} {g : Int → Int → V} (ha : RV ta σ H (.int i)) (hb : RV tb σ H (.int j)) (hc : C i j) : RV (tOp (rI C g) ta tb) σ H (g i j) := rd_op ha hb fun _ q => ⟨i, j, rfl, rfl, hc, q⟩
theorem rd_I0 {g : Int → Int → V} (ha : RV ta σ H (.int i)) (hb : RV tb σ H (.int j)) : RV (tOp (rI0 g) ta tb) σ H (g i j) := rd_op ha hb fun _ q => ⟨i, j, rfl, rfl, q⟩
theorem rd_ix {K : PySem.W.Frag} {p : Addr} {xs : List V} (ha : RV ta σ H (.ref p)) (hb : RV tb σ H (.int i)) (hs : SqL K H p xs) (hi : atI xs i = some v) : RV (tOp (rIxL K) ta tb) σ H v := rd_op ha hb fun _ q => ⟨p, xs, i, v, rfl, rfl, hs, hi, q⟩
theorem rd_int (ha : RV ta σ H (.int i)) : RV (tCB (fun xs H Q => (∃ i, xs = [.int i] ∧ Q (.int i) H) ∨ ∃ k, xs = [.bl k] ∧ Q (.int (if k then 1 else 0)) H) (tCons ta tNil)) σ H (.int i) := fun Q q => ha _ (.inl ⟨i, rfl, q⟩)
theorem rd_len {K : PySem.W.Frag} {p : Addr} {xs : List V} (ha : RV ta σ H (.ref p)) (hs : SqL K H p xs) : RV (tCB (fun xs H Q => ∃ x n, xs = [x] ∧ LenV K x H n ∧ Q (.int n) H) (tCons ta tNil)) σ H (.int (xs.length : Int)) := fun Q q => ha _ ⟨_, xs.length, rfl, .inl ⟨xs, hs, rfl⟩, q⟩
theorem rd_if {t u : TS} {k : Bool} {D : Ends} (h : RV te σ H (.bl k)) (h1 : k = true → t D σ H) (h2 : k = false → u D σ H) : tIfS (tTest te) t u D σ H := h _ ⟨k, rfl, by
  cases k with
  | true => exact h1 rfl
  | false => exact h2 rfl⟩
theorem rd_asg {D : Ends} {n : Nat} (h : RV te σ H v) (q : D.nx (σ.set n (some v)) H) : tAsg te (gName n) D σ H := h _ q
theorem rd_set {D : Ends} {p : Addr} {xs : List V} {n : Nat} (h : RV te σ H v) (ha : RV ta σ H (.ref p)) (hb : RV tb σ H (.int i)) (hp : H p = some (.lst xs)) (hi : ixN xs.length i = some n) (q : D.nx σ (upd H p (.lst (xs.set n v)))) : tAsg te (gSub ta tb rSetL) D σ H :=
  h _ (ha _ (hb _ ⟨p, xs, i, n, rfl, rfl, hp, hi, q⟩))
theorem rd_ret {D : Ends} (h : RV te σ H v) (q : D.rt v H) : tRet te D σ H := h _ q
end
section
variable {K : PySem.W.Frag} {T : List (Addr × Str)} {H : Hp}
/-- the row of draws has moved -/
theorem Ex.draw {b a : Addr} {i j k i' j' k' : Int} (h : H b = some (.lst [.ref a, .int i, .int j, .int k])) (hi : 0 ≤ i') (hj : 0 ≤ j') (hj2 : j' < 2147483647) (hk : 0 ≤ k') : Ex K T H (upd H b (.lst [.ref a, .int i', .int j', .int k'])) := by
  have ne : ∀ c o, H c = some o → gst o = false → c ≠ b := fun c o hc g z => by
    rw [z, h] at hc
    cases hc
    cases g
  have neT : ∀ c ps, H c = some (.tbl ps) → c ≠ b := fun c ps hc z => by
    rw [z, h] at hc
    cases hc
  refine ⟨fun c o hc g => (upd_ne (ne c o hc g)).trans hc, fun c ⟨ps, hc, t⟩ => ⟨ps, (upd_ne (neT c ps hc)).trans hc, t⟩, fun c d ns r => ?_, fun t q hq => ?_, fun c hc => ?_⟩
  · obtain ⟨u, v, w, hc, hs, r2⟩ := r
    have hs' : SqL K (upd H b (.lst [.ref a, .int i', .int j', .int k'])) d (ns.map V.int) := by
      rcases hs with (hs | ⟨o, hs⟩) | hs
      · exact .inl (.inl ((upd_ne (ne d _ hs (rowish_int ns))).trans hs))
      · exact .inl (.inr ⟨o, (upd_ne (ne d _ hs rfl)).trans hs⟩)
      · exact .inr hs
    by_cases z : c = b
    · rw [z] at hc
      rw [z]
      rw [h] at hc
      cases hc
      exact ⟨i', j', k', upd_same, hs', hi, hj, hj2, hk⟩
    · exact ⟨u, v, w, (upd_ne z).trans hc, hs', r2⟩
  · obtain ⟨ps, h1, h2, h3⟩ := t q hq
    refine ⟨ps, (upd_ne (neT _ ps h1)).trans h1, h2, fun pos cv hc => ?_⟩
    obtain ⟨c, e1, e2⟩ := h3 pos cv hc
    refine ⟨c, e1, (upd_ne fun z => ?_).trans e2⟩
    rw [z, h] at e2
    cases e2
  · by_cases z : c = b
    · rw [z, upd_same] at hc
      cases hc
    · rw [upd_ne z] at hc
      exact hc
theorem cm48 {x : Int} : CMul x 48271 := Or.inr ⟨by decide, by decide⟩
theorem cd7 {x : Int} : CDiv x 7 := ⟨by decide, by decide⟩
theorem pos31 : (0 : Int) < 2147483647 := by decide
theorem cp18 : CPow 10 18 := ⟨by decide, by decide, by decide⟩
theorem at_0 {a b c d : V} : atI [a, b, c, d] 0 = some a := rfl
theorem at4 {a b c d : V} : atI [a, b, c, d] 1 = some b ∧ atI [a, b, c, d] 2 = some c ∧ atI [a, b, c, d] 3 = some d := ⟨rfl, rfl, rfl⟩
end
variable {PP : Program} {w : World} {K : PySem.W.Frag} {T : List (Addr × Str)} {P : List Addr} {mg : Str → Option Value} {base : Heap}
theorem sc_law_taken : FnScope ["_law_row_here", "_law_many", "_law_found", "_law_cell"] ["_law_row_here", "_law_many"] (defScope (topS 43)) := ⟨rfl, rfl, rfl, by decide +kernel, rfl, by decide +kernel, by decide +kernel⟩
structure Dw where
  b : Addr
  a : Addr
  ns : List Int
abbrev Dw.d (r : Dw) : D := .row r.b r.a r.ns
abbrev sp_taken (K : PySem.W.Frag) (T : List (Addr × Str)) (P : List Addr) : Sp := spF K T P (ι := Dw × Int) (fun i => [i.1.d, .int i.2]) (fun i => 0 < i.2 ∧ i.2 < 1073741824) (fun i d => ∃ n : Int, d = .int n ∧ 0 ≤ n ∧ n < i.2)
theorem ok_taken {f : Addr} {fd : FuncData} (TT : Tx K mg) (F : Dfn K mg "_law_taken" 43 ["_law_row_here", "_law_many"] f fd) : FnOk PP w K mg base CX0 1 f fd ["_law_row_here", "_law_many"] (sp_taken K T P) := by
  refine F.ok sc_law_taken (spF_len fun _ => rfl) fun cdv A outer s H vs Q E hr h => ?_
  obtain ⟨⟨⟨b, a, ns⟩, m⟩, W, e, r, g, ⟨hm, hm2⟩, k⟩ := h
  dsimp only at hm k r
  refine ⟨_, (pss_cons (ps_if (pt_cmpR op_gt (pe_ix (ixL K) (pv 0) pe_int (fun _ _ => rfl)) pe_int (nomark _))
      (pss_cons (ps_set (i := 2) sc_law_taken.nd rfl (Or.inl rfl) (pe_op op_mod (pe_callTy call_int1 (by rfl) TT.b_int (by decide +kernel) (pa_cons (pe_ix (ixL K) (pv 0) pe_int (fun _ _ => rfl)) pa_nil)) (pv 1)))
      (pss_cons (ps_asg (pe_op op_fdiv (pe_ix (ixL K) (pv 0) pe_int (fun _ _ => rfl)) (pv 1)) (pg_sub (pv 0) pe_int set_list))
      (pss_one (ps_ret (pv 2)))))
      pss_nil)
      (pss_cons (ps_asg (pe_op op_add (pe_ix (ixL K) (pv 0) pe_int (fun _ _ => rfl)) pe_int) (pg_sub (pv 0) pe_int set_list))
      (pss_cons (ps_if (pt_cmpR op_gt (pe_ix (ixL K) (pv 0) pe_int (fun _ _ => rfl)) (pe_callB (lenK K) (by rfl) TT.b_len (by decide +kernel) (pa_cons (pe_ix (ixL K) (pv 0) pe_int (fun _ _ => rfl)) pa_nil)) (nomark _))
      (pss_cons (ps_asg (pe_op op_mod (pe_callTy call_int1 (by rfl) TT.b_int (by decide +kernel) (pa_cons (pe_op op_add (pe_op op_mul (pe_ix (ixL K) (pv 0) pe_int (fun _ _ => rfl)) pe_int) pe_int) pa_nil)) pe_int) (pg_sub (pv 0) pe_int set_list))
      (pss_one (ps_ret (pe_op op_mod (pe_callTy call_int1 (by rfl) TT.b_int (by decide +kernel) (pa_cons (pe_op op_fdiv (pe_ix (ixL K) (pv 0) pe_int (fun _ _ => rfl)) pe_int) pa_nil)) (pv 1)))))
      pss_nil)
      (pss_cons (ps_set (i := 3) sc_law_taken.nd rfl (Or.inl rfl) (pe_ix (ixL K) (pe_ix (ixL K) (pv 0) pe_int (fun _ _ => rfl)) (pe_op op_sub (pe_ix (ixL K) (pv 0) pe_int (fun _ _ => rfl)) pe_int) (fun _ _ => rfl)))
      (pss_cons (ps_asg (pe_op op_mod (pe_callTy call_int1 (by rfl) TT.b_int (by decide +kernel) (pa_cons (pe_op op_add (pe_op op_add (pe_op op_mul (pe_ix (ixL K) (pv 0) pe_int (fun _ _ => rfl)) pe_int) (pv 3)) pe_int) pa_nil)) pe_int) (pg_sub (pv 0) pe_int set_list))
      (pss_cons (ps_if (pt_cmpR op_ge (pv 3) (pe_op op_pow pe_int pe_int) (nomark _))
      (pss_one (ps_asg (pe_op op_fdiv (pv 3) (pv 1)) (pg_sub (pv 0) pe_int set_list)))
      pss_nil)
      (pss_one (ps_ret (pe_op op_mod (pe_callTy call_int1 (by rfl) TT.b_int (by decide +kernel) (pa_cons (pv 3) pa_nil)) (pv 1)))))))))), ?_⟩
  obtain ⟨v1, v2, rfl, ⟨rfl, r1⟩, rfl⟩ := rpl_2 r
  obtain ⟨i, j, kk, hb, hs, hi, hj, hj2, hk⟩ := e.row b a ns r1
  have hbs : SqL K H b [.ref a, .int i, .int j, .int kk] := SqL.of hb
  -- every change of the row keeps what is known
  have go : ∀ (i' j' k' n : Int), 0 ≤ i' → 0 ≤ j' → j' < 2147483647 → 0 ≤ k' → 0 ≤ n → n < m → Q (.int n) (upd H b (.lst [.ref a, .int i', .int j', .int k'])) := fun i' j' k' n h1 h2 h3 h4 h5 h6 =>
    k (.int n) _ _ _ ⟨n, rfl, h5, h6⟩ (Vw.mk0 e (Ex.draw hb h1 h2 h3 h4)) rp_i
  have go2 : ∀ (i' j' k' n : Int) (H' : Hp), H' = upd H b (.lst [.ref a, .int i', .int j', .int k']) → 0 ≤ i' → 0 ≤ j' → j' < 2147483647 → 0 ≤ k' → 0 ≤ n → n < m → Q (.int n) H' := fun i' j' k' n H' z h1 h2 h3 h4 h5 h6 => by
    rw [z]
    exact go i' j' k' n h1 h2 h3 h4 h5 h6
  have uu : ∀ (G : Hp) (o1 o2 : HO), upd (upd G b o1) b o2 = upd G b o2 := fun G o1 o2 => by
    funext c
    by_cases z : c = b
    · rw [z, upd_same, upd_same]
    · rw [upd_ne z, upd_ne z, upd_ne z]
  have na : ∀ o, SqL K (upd H b o) a (ns.map V.int) := fun o => by
    have ne : ∀ o', H a = some o' → gst o' = false → a ≠ b := fun o' hc g z => by
      rw [z, hb] at hc
      cases hc
      cases g
    rcases ex_sl e (rowish_int ns) (by obtain ⟨_, _, _, _, q, _⟩ := r1; exact q) with (q | ⟨u, q⟩) | q
    · exact .inl (.inl ((upd_ne (ne _ q (rowish_int ns))).trans q))
    · exact .inl (.inr ⟨u, (upd_ne (ne _ q rfl)).trans q⟩)
    · exact .inr q
  have nw : ∀ (G : Hp) xs, SqL K (upd G b (.lst xs)) b xs := fun G xs => SqL.of upd_same
  have md : ∀ x : Int, 0 ≤ x % m ∧ x % m < m := fun x => ⟨Int.emod_nonneg _ (by omega), Int.emod_lt_of_pos _ hm⟩
  have m31 : ∀ x : Int, 0 ≤ x % 2147483647 ∧ x % 2147483647 < 2147483647 := fun x => ⟨Int.emod_nonneg _ (by omega), Int.emod_lt_of_pos _ (by omega)⟩
  refine rd_if (rd_I0 (rd_ix (rd_var (by rfl)) rd_c hbs at4.2.2) rd_c) (fun hb1 => ?_) (fun hb1 => ?_)
  · refine rd_asg (rd_I (rd_int (rd_ix (rd_var (by rfl)) rd_c hbs at4.2.2)) (rd_var (by rfl)) hm) ?_
    dsimp only
    refine rd_set (rd_I (rd_ix (rd_var (by rfl)) rd_c hbs at4.2.2) (rd_var (by rfl)) ⟨hm, hm2⟩) (rd_var (by rfl)) rd_c hb (by rfl) ?_
    dsimp only
    refine rd_ret (rd_var (by rfl)) ?_
    exact go i j (kk / m) (kk % m) hi hj hj2 (Int.ediv_nonneg hk (by omega)) (md _).1 (md _).2
  · refine rd_set (rd_I0 (rd_ix (rd_var (by rfl)) rd_c hbs at4.1) rd_c) (rd_var (by rfl)) rd_c hb (by rfl) ?_
    dsimp only
    refine rd_if (k := decide (((ns.map V.int).length : Int) < i + 1)) (rd_I0 (g := fun i j => .bl (decide (j < i))) (i := i + 1) (j := ((ns.map V.int).length : Int)) (rd_ix (rd_var (by rfl)) rd_c (nw _ _) at4.1) (rd_len (rd_ix (rd_var (by rfl)) rd_c (nw _ _) at_0) (na _))) (fun hb2 => ?_) (fun hb2 => ?_)
    · refine rd_set (rd_I (rd_int (rd_I0 (rd_I (rd_ix (rd_var (by rfl)) rd_c (nw _ _) at4.2.1) rd_c cm48) rd_c)) rd_c pos31) (rd_var (by rfl)) rd_c upd_same (by rfl) ?_
      dsimp only
      refine rd_ret (rd_I (C := fun _ j => 0 < j) (g := fun i j => .int (i % j)) (rd_int (rd_I (C := CDiv) (g := fun i j => .int (i / j)) (rd_ix (rd_var (by rfl)) rd_c (nw _ _) at4.2.1) rd_c cd7)) (rd_var (by rfl)) hm) ?_
      exact go2 (i + 1) _ kk _ _ (uu _ _ _) (by omega) (m31 _).1 (m31 _).2 hk (md _).1 (md _).2
    · have hlen : (i + 1) ≤ (ns.length : Int) := by
        have q := of_decide_eq_false hb2
        rw [List.length_map] at q
        omega
      obtain ⟨c, hc⟩ : ∃ c, atI (ns.map V.int) (i + 1 - 1) = some (.int c) := by
        obtain ⟨n, rfl⟩ := Int.eq_ofNat_of_zero_le hi
        have hn : n < ns.length := by omega
        refine ⟨ns[n], ?_⟩
        rw [show ((n : Int) + 1 - 1) = (n : Int) by omega]
        exact atI_nat (by rw [List.getElem?_map, List.getElem?_eq_getElem hn]; rfl)
      refine rd_asg (rd_ix (rd_ix (rd_var (by rfl)) rd_c (nw _ _) at_0) (rd_I0 (rd_ix (rd_var (by rfl)) rd_c (nw _ _) at4.1) rd_c) (na _) hc) ?_
      dsimp only
      refine rd_set (rd_I (rd_int (rd_I0 (rd_I0 (rd_I (rd_ix (rd_var (by rfl)) rd_c (nw _ _) at4.2.1) rd_c cm48) (rd_var (by rfl))) rd_c)) rd_c pos31) (rd_var (by rfl)) rd_c upd_same (by rfl) ?_
      dsimp only
      refine rd_if (rd_I0 (rd_var (by rfl)) (rd_I rd_c rd_c cp18)) (fun hb3 => ?_) (fun hb3 => ?_)
      · have h18 : (0 : Int) ≤ c := by
          have q := of_decide_eq_true hb3
          have q2 : (0 : Int) ≤ 10 ^ (18 : Int).toNat := by decide
          omega
        refine rd_set (rd_I (rd_var (by rfl)) (rd_var (by rfl)) ⟨hm, hm2⟩) (rd_var (by rfl)) rd_c upd_same (by rfl) ?_
        dsimp only
        refine rd_ret (rd_I (rd_int (rd_var (by rfl))) (rd_var (by rfl)) hm) ?_
        exact go2 (i + 1) _ (c / m) _ _ ((uu _ _ _).trans (uu _ _ _)) (by omega) (m31 _).1 (m31 _).2 (Int.ediv_nonneg h18 (by omega)) (md _).1 (md _).2
      · unfold tNext
        dsimp only
        refine rd_ret (rd_I (rd_int (rd_var (by rfl))) (rd_var (by rfl)) hm) ?_
        exact go2 (i + 1) _ kk _ _ (uu _ _ _) (by omega) (m31 _).1 (m31 _).2 hk (md _).1 (md _).2
end K11
/-! K11O: what the law draws: picks, rows. -/
namespace K11
open PySem PySem.Spec PyProof.Rows
open L2
def isInt : D → Bool
  | .int _ => true
  | _ => false
theorem rowD_ints {l : List D} (h : ∀ d ∈ l, isInt d = true) : rowD l = false := by
  unfold rowD
  split
  · cases h (.lst _) (List.mem_cons_self ..)
  · cases h (.tup _) (List.mem_cons_self ..)
  · cases h (.row _ _ _) (List.mem_cons_self ..)
  · rfl
theorem rowD_nints {l : List D} (h : ∀ d ∈ l, isInt d = false) : rowD l = false := by
  unfold rowD
  split
  · cases h (.int _) (List.mem_cons_of_mem _ (List.mem_cons_self ..))
  · cases h (.int _) (List.mem_cons_of_mem _ (List.mem_cons_self ..))
  · cases h (.int _) (List.mem_cons_of_mem _ (List.mem_cons_self ..))
  · rfl
section
variable {K : PySem.W.Frag} {T : List (Addr × Str)} {P : List Addr} {B : Hp} {δ : List Sl} {te ta : TE} {A : D → Prop} {wi : TI} {d : D} {W W0 H H1 : Hp} {σ : L2.St} {t : TT} {tu tw : TS} {D0 : Ends}
/-- a comprehension of things that are all A -/
theorem el_lcQ {g : TG} {vs : List Nat} {Z : Nat → (Nat → D) → Prop} {δ' : Nat → (Nat → D) → Nat → List Sl} (hs : Io K T P B wi δ Z) (hg : ∀ n el i, Z n el → i < n → Tg K T P B g (el i) vs (wipeS δ vs) (δ' n el i)) (hn : ∀ n el, Z n el → n ≤ 100000)
    (hr : ∀ l, (∀ d ∈ l, A d) → rowD l = false) (h : ∀ n el i, Z n el → i < n → E K T P B te (δ' n el i) A) : El K T P B (tLc wi g tYes te vs) δ (fun l => ∃ n el, Z n el ∧ l.length = n ∧ ∀ d ∈ l, A d) := by
  refine el_lc hs hg fun n el hz => ⟨fun i l => i ≤ n ∧ l.length = i ∧ ∀ d ∈ l, A d, ⟨Nat.zero_le _, rfl, fun d h => by cases h⟩, fun i l h => ⟨hr l h.2.2, by have := hn n el hz; omega⟩, fun l h => ⟨n, el, hz, h.2.1, h.2.2⟩, fun i l hi hA => ?_⟩
  refine ⟨fun b => b = true, fun σ W R H1 e Q q => q true _ H1 rfl (Vw.same e), fun _ => (h n el i hz hi).imp fun d hd => ⟨hi, ?_, fun x hx => ?_⟩, fun z => absurd z Bool.false_ne_true⟩
  · rw [List.length_append, hA.2.1]
    rfl
  · rcases List.mem_append.mp hx with hx | hx
    · exact hA.2.2 x hx
    · rw [List.mem_singleton.mp hx]
      exact hd
theorem El.imp {A C : List D → Prop} (h : El K T P B te δ A) (q : ∀ l, A l → C l) : El K T P B te δ C := fun σ W R H1 e Q k => h σ W R H1 e Q fun ds xs pp W' H' hd => k ds xs pp W' H' (q ds hd)
theorem ee_tupL {ta : TE} {A : List D → Prop} (h : E K T P B ta δ (fun d => ∃ l, d = .lst l ∧ A l)) : E K T P B (tCB (fun xs H Q => ∃ p ys, xs = [.ref p] ∧ ((SqL K H p ys ∧ ∀ l, H l = none → Q (.ref l) (upd H l (.tup ys))) ∨ (SqT K H p ys ∧ Q (.ref p) H))) (tCons ta tNil)) δ (fun d => ∃ l, d = .tup l ∧ A l) := by
  refine ee_cb (aa_cons h fun a ha => a_nil) fun ds hd => ?_
  obtain ⟨a, r, rfl, ⟨l, rfl, hA⟩, rfl⟩ := hd
  exact fun W vs W1 H1 e1 e2 rv Q q => c_tupL W vs W1 H1 e1 e2 rv Q fun d v W' H2 hd => q d v W' H2 ⟨l, hd, hA⟩
theorem ee_isI {C : D → Prop} {r : R2} {tb : TE} {D2 : D → Prop} (ha : E K T P B ta δ A) (hb : E K T P B tb δ D2) (hr : ∀ a b, A a → D2 b → Ro K T r a b C) : E K T P B (tOp r ta tb) δ C := ee_op ha (fun _ _ => hb) hr
end
variable {PP : Program} {w : World} {K : PySem.W.Frag} {T : List (Addr × Str)} {P : List Addr} {mg : Str → Option Value} {base : Heap}
theorem sc_law_pick : FnScope ["_law_row_here", "_law_things"] ["_law_row_here", "_law_things"] (defScope (topS 44)) := ⟨rfl, rfl, rfl, by decide +kernel, rfl, by decide +kernel, by decide +kernel⟩
abbrev sp_pick (K : PySem.W.Frag) (T : List (Addr × Str)) (P : List Addr) : Sp := spF K T P (ι := Dw × List D) (fun i => [i.1.d, .lst i.2]) (fun i => 0 < i.2.length ∧ i.2.length < 100000) (fun i d => d ∈ i.2)
theorem ok_pick {f f1 : Addr} {fd fd1 : FuncData} (TT : Tx K mg) (F : Dfn K mg "_law_pick" 44 ["_law_row_here", "_law_things"] f fd)
    (D_law_taken : Dfn K mg "_law_taken" 43 ["_law_row_here", "_law_many"] f1 fd1) (G_law_taken : FnOk PP w K mg base CX0 1 f1 fd1 ["_law_row_here", "_law_many"] (sp_taken K T P)) :
    FnOk PP w K mg base CX0 2 f fd ["_law_row_here", "_law_things"] (sp_pick K T P) := by
  refine F.ok sc_law_pick (spF_len fun _ => rfl) fun cdv A outer s H vs Q E hr h => ?_
  obtain ⟨⟨r0, l⟩, W, e, r, g, ⟨h1, h2⟩, k⟩ := h
  dsimp only at h1 h2 k r
  refine ⟨_, (pss_one (ps_ret (pe_ix (ixL K) (pv 1) (pe_call G_law_taken (hr.mono (by decide)) (by rfl) D_law_taken.mg D_law_taken.kp D_law_taken.b .nil pass0 (pa_cons (pv 0) (pa_cons (pe_callB (lenK K) (by rfl) TT.b_len (by decide +kernel) (pa_cons (pv 1) pa_nil)) pa_nil))) (fun _ _ => rfl)))), ?_⟩
  have s0 := ss_start (N := ["_law_row_here", "_law_things"]) e r g
  refine s_ret (A := fun d => d ∈ l) ?_ s0 e fun d v W' H2 hd z rv => k _ _ _ _ hd z rv
  refine ee_op (e_var rfl) (fun a _ => e_call (r0, (l.length : Int)) (a_2 (e_var rfl) (e_lenL (e_var rfl))) ⟨by show (0 : Int) < _; omega, by show (_ : Int) < _; omega⟩) fun a b ha hb => ?_
  subst ha
  obtain ⟨n, rfl, b1, b2⟩ := hb
  obtain ⟨m, rfl⟩ := Int.eq_ofNat_of_zero_le b1
  have hm : m < l.length := by
    have b3 : (m : Int) < (l.length : Int) := b2
    omega
  exact fun W x y W1 H1 e1 e2 rx ry Q q => o_ixL (d := l[m]) (atI_nat (List.getElem?_eq_getElem hm)) W x y W1 H1 e1 e2 rx ry Q fun d v W' H2 hd => q d v W' H2 (by rw [hd]; exact List.getElem_mem hm)
theorem sc_law_row : FnScope ["_law_row_here", "_law_prime", "_law_many", "_law_place"] ["_law_row_here", "_law_prime", "_law_many"] (defScope (topS 46)) := ⟨rfl, rfl, rfl, by decide +kernel, rfl, by decide +kernel, by decide +kernel⟩
theorem ints_of {p : Int} : ∀ {l : List D}, (∀ d ∈ l, ∃ n : Int, d = .int n ∧ 0 ≤ n ∧ n < p) → ∃ ns : List Int, l = ns.map .int ∧ inR p ns
  | [], _ => ⟨[], rfl, fun x h => by cases h⟩
  | d :: l, h => by
    obtain ⟨n, rfl, h1, h2⟩ := h d (List.mem_cons_self ..)
    obtain ⟨ns, rfl, hr⟩ := ints_of (l := l) fun x hx => h x (List.mem_cons_of_mem _ hx)
    exact ⟨n :: ns, rfl, fun x hx => by
      rcases List.mem_cons.mp hx with rfl | hx
      · exact ⟨h1, h2⟩
      · exact hr x hx⟩
theorem sc_row_int {l : List D} {p : Int} (h : ∀ d ∈ l, ∃ n : Int, d = .int n ∧ 0 ≤ n ∧ n < p) : rowD l = false := rowD_ints fun d hd => by
  obtain ⟨n, rfl, _⟩ := h d hd
  rfl
abbrev sp_lrow (K : PySem.W.Frag) (T : List (Addr × Str)) (P : List Addr) : Sp := spF K T P (ι := Dw × Int × Nat) (fun i => [i.1.d, .int i.2.1, .int i.2.2]) (fun i => isPr i.2.1 ∧ i.2.2 ≤ 4) (fun i d => ∃ ns, d = rowT ns ∧ RowOk i.2.1 i.2.2 ns)
theorem ok_lrow {f f1 : Addr} {fd fd1 : FuncData} (TT : Tx K mg) (F : Dfn K mg "_law_row" 46 ["_law_row_here", "_law_prime", "_law_many"] f fd)
    (D_law_taken : Dfn K mg "_law_taken" 43 ["_law_row_here", "_law_many"] f1 fd1) (G_law_taken : FnOk PP w K mg base CX0 1 f1 fd1 ["_law_row_here", "_law_many"] (sp_taken K T P)) :
    FnOk PP w K mg base CX0 2 f fd ["_law_row_here", "_law_prime", "_law_many"] (sp_lrow K T P) := by
  refine F.ok sc_law_row (spF_len fun _ => rfl) fun cdv A outer s H vs Q E hr h => ?_
  obtain ⟨⟨r0, p, m⟩, W, e, r, g, ⟨hp, h2⟩, k⟩ := h
  dsimp only at hp h2 k r
  refine ⟨_, (pss_one (ps_ret (pe_callTy (tupK K) (by rfl) TT.b_tuple (by decide +kernel) (pa_cons (pe_lc (g := gName 3) (own := [("_law_place", 3)]) (by rfl) sc_law_row.nd (pi_range1 (by rfl) TT.b_range (pa_cons (pv 2) pa_nil)) (blkOk_by (own := [("_law_place", 3)]) (by rfl)) (fun _ _ _ _ _ => (pg_name (i := 3) sc_law_row.nd rfl (Or.inl rfl))) (fun _ _ _ _ _ => pts_nil) (fun _ _ _ _ _ => (pe_ifExp (pt_cmpR op_gt (pe_call G_law_taken (hr.mono (by decide)) (by rfl) D_law_taken.mg D_law_taken.kp D_law_taken.b .nil pass0 (pa_cons (pv 0) (pa_cons pe_int pa_nil))) pe_int (nomark _)) (pe_call G_law_taken (hr.mono (by decide)) (by rfl) D_law_taken.mg D_law_taken.kp D_law_taken.b .nil pass0 (pa_cons (pv 0) (pa_cons (pv 1) pa_nil))) pe_int))) pa_nil)))), ?_⟩
  have pb := hp.pos
  have s0 := ss_start (N := ["_law_row_here", "_law_prime", "_law_many", "_law_place"]) e r g
  refine s_ret (A := fun d => ∃ l, d = .tup l ∧ l.length = m ∧ ∀ d ∈ l, ∃ n : Int, d = .int n ∧ 0 ≤ n ∧ n < p) (ee_tupL (A := fun l => l.length = m ∧ ∀ d ∈ l, ∃ n : Int, d = .int n ∧ 0 ≤ n ∧ n < p) (El.e ?_)) s0 e fun d v W' H2 hd z rv => ?_
  rotate_left
  · obtain ⟨l, rfl, h3, h4⟩ := hd
    obtain ⟨ns, rfl, hr2⟩ := ints_of h4
    exact k _ _ _ _ ⟨ns, rfl, by rw [← h3, List.length_map], hr2⟩ z rv
  refine El.imp (el_lcQ (δ' := fun _ _ i => [.d r0.d, .d (.int p), .d (.int (m : Int)), .d (.int (i : Int))])
    (A := fun d => ∃ n : Int, d = .int n ∧ 0 ≤ n ∧ n < p) (io_rng1 (a_1 (e_var rfl)) (by omega) (by omega)) (fun n el i hz hi => ?_) (fun n el hz => ?_) (fun l hl => sc_row_int hl) (fun n el i hz hi => ?_)) fun l hl => ?_
  · obtain ⟨rfl, rfl⟩ := hz
    exact tg_name
  · obtain ⟨rfl, rfl⟩ := hz
    omega
  · refine e_if (C' := fun _ => True) (t_test (ee_op (e_call (r0, 3) (a_2 (e_var rfl) e_int) ⟨by show (0 : Int) < 3; omega, by show (3 : Int) < _; omega⟩) (fun a _ => e_int) fun a b ha hb => ?_)) (fun _ => ?_) (fun _ => ?_)
    · obtain ⟨n, rfl, _⟩ := ha
      subst hb
      exact fun W x y W1 H1 e1 e2 rx ry Q q => o_gt W x y W1 H1 e1 e2 rx ry Q fun d v W' H2 hd => q d v W' H2 ⟨_, hd, trivial⟩
    · exact e_call (r0, p) (a_2 (e_var rfl) (e_var rfl)) ⟨by show (0 : Int) < p; omega, by show p < _; omega⟩
    · exact e_int.imp fun d hd => ⟨0, hd, by omega, by omega⟩
  · obtain ⟨n, el, ⟨rfl, rfl⟩, h3, h4⟩ := hl
    exact ⟨h3, h4⟩
end K11
/-! K11P: the stir that the law draws. -/
namespace K11
open PySem PySem.Spec PyProof.Rows
open L2
abbrev rowL (ns : List Int) : D := .lst (ns.map .int)
def getT (d : D) (i : Nat) : D := match d with
  | .tup l => l.getD i .non
  | _ => .non
section
variable {K : PySem.W.Frag} {T : List (Addr × Str)} {P : List Addr} {B : Hp} {δ δ' : List Sl} {te ta tc : TE} {A : D → Prop} {wi : TI} {a b c d : D} {W W0 H H1 H2 : Hp} {σ : L2.St} {t : TT} {tu tw : TS} {D0 : Ends}
theorem rpl_3 {a b c : D} {vs : List V} (h : RpL K W [a, b, c] vs) : ∃ u v w, vs = [u, v, w] ∧ Rp K W a u ∧ Rp K W b v ∧ Rp K W c w := by
  match vs, h with
  | [u, v, w], ⟨r1, r2, r3, _⟩ => exact ⟨u, v, w, rfl, r1, r2, r3⟩
theorem tg_3 {l m n : Nat} {vs : List Nat} (h : l ∈ vs := by decide) (h' : m ∈ vs := by decide) (h'' : n ∈ vs := by decide) : Tg K T P B (gTup K 3 (gCons (gName l) (gCons (gName m) (gCons (gName n) gNil)))) (.tup [a, b, c]) vs δ (((δ.set l (.d a)).set m (.d b)).set n (.d c)) := fun x W H Q σ R e rx q => by
  obtain ⟨p, xs, rfl, hs, hl⟩ := rx
  obtain ⟨u, v, w, rfl, ra, rb, rc⟩ := rpl_3 hl
  exact ⟨p, [u, v, w], rfl, ex_st e hs, rfl, u, [v, w], rfl, v, [w], rfl, w, [], rfl, rfl, q _ (((R.set ra).set rb).set rc) (by rw [List.length_set, List.length_set, List.length_set]) fun i hi => by
    rw [List.getElem?_set, if_neg (by rintro rfl; exact hi h''), List.getElem?_set, if_neg (by rintro rfl; exact hi h'), List.getElem?_set, if_neg (by rintro rfl; exact hi h)]⟩
/-- a view that knows one more list -/
theorem SS.know {p : Addr} {ds : List D} {xs : List V} (s : SS K T P B W0 H W H1 δ σ) (hh : H p = none) (h1 : H1 p = some (.lst xs)) (rl : RpL K W ds xs) (g : rowish xs = false) :
    ∃ W', SS K T P B W0 H W' H1 δ σ ∧ Ex K T W W' ∧ Rp K W' (.lst ds) (.ref p) ∧ ∀ q es, Ow K W H H1 q es → q ≠ p → Ow K W' H H1 q es := by
  have e : Ex K T W (rs (fun b => (∃ q, H1 b = some (LamX.CodeO b q)) ∨ W b ≠ none ∨ b = p) H1) := s.y.to.inRs (fun b h => .inr (.inl h)) fun b q h => .inl ⟨q, h⟩
  refine ⟨_, ⟨⟨s.y.up.trans e, Ex.rs, s.y.ac, fun b o hb nc h0 => ?_⟩, rps_mono e s.r.s, s.r.g.mono e, s.r.b.trans e⟩, e, ⟨p, xs, rfl, (rs_in (.inr (.inr rfl))).trans h1, g, ex_rpl e _ _ rl⟩, fun q es z hq => ?_⟩
  · obtain ⟨k1, k2⟩ := rs_some hb
    rcases k1 with ⟨q, k1⟩ | k1 | k1
    · rw [k1] at k2
      exact absurd (Option.some.inj k2).symm (nc q)
    · cases qb : W b with
      | none => exact absurd qb k1
      | some u =>
        refine s.y.fr b u qb (fun r hr => ?_) h0
        have k := e.keep b u qb (by rw [hr]; rfl)
        rw [hb] at k
        rw [← Option.some.inj k] at hr
        exact nc r hr
    · rw [k1]
      exact hh
  · obtain ⟨zw, zh, ys, z1, zr, zg⟩ := z
    refine ⟨rs_out fun k => ?_, zh, ys, z1, ex_rpl e _ _ zr, zg⟩
    rcases k with ⟨q', k⟩ | k | k
    · rw [z1] at k
      cases k
    · exact k zw
    · exact hq k
theorem rpl_ints : ∀ {ns : List Int} {xs : List V} {W W' : Hp}, RpL K W (ns.map .int) xs → RpL K W' (ns.map .int) xs
  | [], [], _, _, _ => True.intro
  | n :: ns, x :: xs, W, W', ⟨h1, h2⟩ => ⟨h1, rpl_ints (ns := ns) (W := W) h2⟩
  | [], _ :: _, _, _, h => False.elim h
  | _ :: _, [], _, _, h => False.elim h
/-- own[i] = a new list of ints, made of what stands in own -/
theorem s_setLF {n : Nat} {p : Addr} {ds : List D} {j : Nat} {A : List Int → Prop} (hn : δ[n]? = some (.own p)) (o : Ow K W H H1 p ds) (hd : (δ.set n (.d (.lst ds))) = δ') (h : El K T P B te δ' (fun l => ∃ ns, l = ns.map .int ∧ A ns)) (hi : E1 K T P B tc δ (.int (j : Int))) (s : SS K T P B W0 H W H1 δ σ) (hj : j < ds.length) (hr : ∀ ns, A ns → rowD (ds.set j (rowL ns)) = false)
    (k : ∀ ns W' H2, A ns → Ex K T W W' → SS K T P B W0 H W' H2 δ σ → Ow K W' H H2 p (ds.set j (rowL ns)) → D0.nx σ H2) :
    tAsg te (gSub (tVar n) tc rSetL) D0 σ H1 := by
  obtain ⟨x, hx, rfl⟩ := rps_get s.r.s hn
  have lk := SS.look s.r s.y.to o hn
  rw [hd] at lk
  refine h σ H1 lk H1 (Ex.refl _) _ fun l xs q V2 H2 hA vv n1 n2 hl g rl => ⟨_, hx, ?_⟩
  obtain ⟨ns, rfl, hA⟩ := hA
  have s2 := s.stay vv.ac
  have o2 := o.stay vv.ac
  have hq : p ≠ q := fun z => by
    obtain ⟨_, _, ys, h1, _⟩ := o
    rw [z, n2] at h1
    cases h1
  obtain ⟨W3, s3, e3, r3, ok⟩ := s2.know (s.y.ac.has q n2) hl (rpl_ints rl) g
  have o3 := ok p ds o2 hq
  refine hi σ W3 s3.r H2 s3.y.to _ fun d' w W4 H4 hd' z4 rw' => ?_
  subst hd'
  cases (show w = .int (j : Int) from rw')
  obtain ⟨hw, hh, zs, h1, rl4, g4⟩ := o3.step z4.vv
  have len := rpl_len rl4
  have rs' := rpl_set j rl4 (ex_rp z4.up _ _ r3)
  have hro := rowish_of rs' (hr ns hA)
  refine ⟨p, zs, j, j, rfl, rfl, h1, ?_, k ns W4 _ hA (e3.trans z4.up) ⟨(s3.y.step z4).mut hw hh h1 g4, s3.r.mono z4.up⟩ ⟨hw, hh, _, upd_same, rs', hro⟩⟩
  unfold ixN
  rw [if_pos (by omega), if_pos (by omega)]
  simp
/-- own[a], own[b] = own[b], own[a] -/
theorem s_swap {n na nb : Nat} {p : Addr} {ds : List D} {i j : Nat} (hn : δ[n]? = some (.own p)) (ha : δ[na]? = some (.d (.int (i : Int)))) (hb : δ[nb]? = some (.d (.int (j : Int)))) (o : Ow K W H H1 p ds) (s : SS K T P B W0 H W H1 δ σ) (hi : i < ds.length) (hj : j < ds.length)
    (hr : rowD (ds.set i (ds.getD j .non)) = false) (hr2 : rowD ((ds.set i (ds.getD j .non)).set j (ds.getD i .non)) = false)
    (k : ∀ H2, SS K T P B W0 H W H2 δ σ → Ow K W H H2 p ((ds.set i (ds.getD j .non)).set j (ds.getD i .non)) → D0.nx σ H2) :
    tAsg (tTup (tCons (tOp (rIxL K) (tVar n) (tVar nb)) (tCons (tOp (rIxL K) (tVar n) (tVar na)) tNil))) (gTup K 2 (gCons (gSub (tVar n) (tVar na) rSetL) (gCons (gSub (tVar n) (tVar nb) rSetL) gNil))) D0 σ H1 := by
  obtain ⟨x, hx, rfl⟩ := rps_get s.r.s hn
  obtain ⟨y, hy, v, rfl, rv⟩ := rps_get s.r.s ha
  cases (show v = .int (i : Int) from rv)
  obtain ⟨z, hz, v, rfl, rv2⟩ := rps_get s.r.s hb
  cases (show v = .int (j : Int) from rv2)
  obtain ⟨hw, hh, xs, h1, rl, g⟩ := id o
  have len := rpl_len rl
  obtain ⟨u, hu, ru⟩ := rpl_get rl (getDq hi)
  obtain ⟨w, hv, rw'⟩ := rpl_get rl (getDq hj)
  refine ⟨_, hx, _, hz, p, xs, j, w, rfl, rfl, SqL.of h1, atI_nat hv, _, hx, _, hy, p, xs, i, u, rfl, rfl, SqL.of h1, atI_nat hu, by show 2 ≤ sizeLine; decide, fun q hq => ?_⟩
  have hpq : p ≠ q := fun e => by
    rw [e, hq] at h1
    cases h1
  have h2 : upd H1 q (.tup [w, u]) p = some (.lst xs) := (upd_ne hpq).trans h1
  have e2 := Ex.new (K := K) (T := T) (o := .tup [w, u]) hq
  have s2 := s.stay e2
  have ix : ∀ (l : List V) (m : Nat), m < l.length → ixN l.length (m : Int) = some m := fun l m hm => by
    unfold ixN
    rw [if_pos (by omega), if_pos (by omega)]
    simp
  have r1 := rpl_set i rl rw'
  have r2 := rpl_set j r1 ru
  have g1 := rowish_of r1 hr
  have g2 := rowish_of r2 hr2
  have y3 := s2.y.mut (o := .lst (xs.set i w)) hw hh h2 g
  have y4 := y3.mut (o := .lst ((xs.set i w).set j u)) hw hh upd_same g1
  refine ⟨q, [w, u], rfl, SqT.of upd_same, rfl, w, [u], rfl, _, hx, _, hy, p, xs, i, i, rfl, rfl, h2, ix xs i (by omega), u, [], rfl, _, hx, _, hz, p, xs.set i w, j, j, rfl, rfl, upd_same, ix _ j (by rw [List.length_set]; omega), rfl, ?_⟩
  exact k _ ⟨y4, s.r⟩ ⟨hw, hh, _, upd_same, r2, g2⟩
end
/-! ### the stir -/
def idR (n : Nat) : List (List Int) := (List.range n).map fun (o : Nat) => (List.range n).map fun (i : Nat) => if decide ((i : Int) = (o : Int)) then 1 else 0
/-- what the law's stir may be -/
inductive Stir (p : Int) (n : Nat) : List (List Int) → Prop where
  | id : Stir p n (idR n)
  | add {st : List (List Int)} (a b : Nat) (f : Int) : Stir p n st → a < n → b < n → a ≠ b → Stir p n (st.set a (addR p (st.getD a []) (st.getD b []) f))
  | swap {st : List (List Int)} (a b : Nat) : Stir p n st → a < n → b < n → Stir p n ((st.set a (st.getD b [])).set b (st.getD a []))
theorem idR_in {n : Nat} {p : Int} (hp : 2 ≤ p) : ∀ r ∈ idR n, RowOk p n r := by
  intro r hr
  obtain ⟨o, _, rfl⟩ := List.mem_map.mp hr
  refine ⟨by rw [List.length_map, List.length_range], fun x hx => ?_⟩
  obtain ⟨i, _, rfl⟩ := List.mem_map.mp hx
  split <;> omega
theorem mem_set {α : Type} {l : List α} {i : Nat} {a x : α} (h : x ∈ l.set i a) : x ∈ l ∨ x = a := by
  rcases List.mem_or_eq_of_mem_set h with h | h
  · exact .inl h
  · exact .inr h
theorem Stir.ok {p : Int} {n : Nat} (hp : 2 ≤ p) {st : List (List Int)} (h : Stir p n st) : st.length = n ∧ ∀ r ∈ st, RowOk p n r := by
  induction h with
  | id => exact ⟨by unfold idR; rw [List.length_map, List.length_range], idR_in hp⟩
  | @add st a b f h ha hb hab ih =>
    obtain ⟨h1, h2⟩ := ih
    refine ⟨by rw [List.length_set]; exact h1, fun r hr => ?_⟩
    rcases mem_set hr with hr | rfl
    · exact h2 r hr
    · exact elim_one (by omega) (h2 _ (getD_mem (by omega))) f
  | @swap st a b h ha hb ih =>
    obtain ⟨h1, h2⟩ := ih
    refine ⟨by rw [List.length_set, List.length_set]; exact h1, fun r hr => ?_⟩
    rcases mem_set hr with hr | rfl
    · rcases mem_set hr with hr | rfl
      · exact h2 r hr
      · exact h2 _ (getD_mem (by omega))
    · exact h2 _ (getD_mem (by omega))
theorem rowL_not : ∀ (st : List (List Int)), rowD (st.map rowL) = false := fun st => rowD_nints fun d hd => by
  obtain ⟨r, _, rfl⟩ := List.mem_map.mp hd
  rfl
theorem set_map {α β : Type} (f : α → β) (l : List α) (i : Nat) (a : α) : (l.map f).set i (f a) = (l.set i a).map f := (List.map_set ..).symm
theorem getD_rowL {rs : List (List Int)} {i : Nat} (h : i < rs.length) : (rs.map rowL).getD i .non = rowL (rs.getD i []) := by
  rw [List.getD_eq_getElem?_getD, List.getElem?_map, List.getElem?_eq_getElem h, List.getD_eq_getElem?_getD, List.getElem?_eq_getElem h]
  rfl
variable {PP : Program} {w : World} {K : PySem.W.Frag} {T : List (Addr × Str)} {P : List Addr} {mg : Str → Option Value} {base : Heap}
theorem sc_law_stir : FnScope ["_law_row_here", "_law_prime", "_law_many", "_law_found", "_law_turn", "_law_one", "_law_other", "_law_factor", "_law_left", "_law_right", "_law_line"] ["_law_row_here", "_law_prime", "_law_many"] (defScope (topS 47)) := ⟨rfl, rfl, rfl, by decide +kernel, rfl, by decide +kernel, by decide +kernel⟩
abbrev sp_stir (K : PySem.W.Frag) (T : List (Addr × Str)) (P : List Addr) : Sp := spF K T P (ι := Dw × Int × Nat) (fun i => [i.1.d, .int i.2.1, .int i.2.2]) (fun i => isPr i.2.1 ∧ 1 ≤ i.2.2 ∧ i.2.2 ≤ 4) (fun i d => ∃ st, d = .tup (st.map rowT) ∧ Stir i.2.1 i.2.2 st)
theorem ok_stir {f f1 : Addr} {fd fd1 : FuncData} (TT : Tx K mg) (F : Dfn K mg "_law_stir" 47 ["_law_row_here", "_law_prime", "_law_many"] f fd)
    (D_law_taken : Dfn K mg "_law_taken" 43 ["_law_row_here", "_law_many"] f1 fd1) (G_law_taken : FnOk PP w K mg base CX0 1 f1 fd1 ["_law_row_here", "_law_many"] (sp_taken K T P)) :
    FnOk PP w K mg base CX0 2 f fd ["_law_row_here", "_law_prime", "_law_many"] (sp_stir K T P) := by
  refine F.ok sc_law_stir (spF_len fun _ => rfl) fun cdv A outer s H vs Q XE hr h => ?_
  obtain ⟨⟨r0, p, m⟩, W, e, r, g, ⟨hp, h1, h2⟩, k⟩ := h
  dsimp only at hp h1 h2 k r
  refine ⟨_, (pss_cons (ps_setLc (i := 3) (by rfl) sc_law_stir.nd rfl rfl (sw_true rfl rfl rfl (by decide +kernel)) (g := gName 6) (own := [("_law_other", 6)]) (pi_range1 (by rfl) TT.b_range (pa_cons (pv 2) pa_nil)) (blkOk_by (own := [("_law_other", 6)]) (by rfl)) (fun _ _ _ _ _ => (pg_name (i := 6) sc_law_stir.nd rfl (Or.inr rfl))) (fun _ _ _ _ _ => pts_nil) (fun _ _ _ _ _ => (pe_lc (g := gName 5) (own := [("_law_one", 5)]) (by rfl) sc_law_stir.nd (pi_range1 (by rfl) TT.b_range (pa_cons (pv 2) pa_nil)) (blkOk_by (own := [("_law_one", 5)]) (by rfl)) (fun _ _ _ _ _ => (pg_name (i := 5) sc_law_stir.nd rfl (Or.inl rfl))) (fun _ _ _ _ _ => pts_nil) (fun _ _ _ _ _ => (pe_callTy call_int1 (by rfl) TT.b_int (by decide +kernel) (pa_cons (pe_cmpR op_eq (pv 5) (pv 6) (nomark _)) pa_nil))))))
      (pss_cons (ps_for PassesOwn.never rfl (pi_range1 (by rfl) TT.b_range (pa_cons (pe_call G_law_taken (hr.mono (by decide)) (by rfl) D_law_taken.mg D_law_taken.kp D_law_taken.b .nil pass0 (pa_cons (pv 0) (pa_cons pe_int pa_nil))) pa_nil)) (pg_name (i := 4) sc_law_stir.nd rfl (Or.inl rfl))
      (pss_cons (ps_asg (pe_tup (pa_cons (pe_call G_law_taken (hr.mono (by decide)) (by rfl) D_law_taken.mg D_law_taken.kp D_law_taken.b .nil pass0 (pa_cons (pv 0) (pa_cons (pv 2) pa_nil))) (pa_cons (pe_call G_law_taken (hr.mono (by decide)) (by rfl) D_law_taken.mg D_law_taken.kp D_law_taken.b .nil pass0 (pa_cons (pv 0) (pa_cons (pv 2) pa_nil))) (pa_cons (pe_op op_add pe_int (pe_call G_law_taken (hr.mono (by decide)) (by rfl) D_law_taken.mg D_law_taken.kp D_law_taken.b .nil pass0 (pa_cons (pv 0) (pa_cons (pe_op op_sub (pv 1) pe_int) pa_nil)))) pa_nil)))) (pg_tup (by rfl) (pgs_cons (pg_name (i := 5) sc_law_stir.nd rfl (Or.inl rfl)) (pgs_cons (pg_name (i := 6) sc_law_stir.nd rfl (Or.inl rfl)) (pgs_cons (pg_name (i := 7) sc_law_stir.nd rfl (Or.inr rfl)) pgs_nil)))))
      (pss_cons (ps_if (pt_cmpR op_ne (pv 5) (pv 6) (nomark _))
      (pss_one (ps_asg (pe_lc (g := gTup K 2 (gCons (gName 8) (gCons (gName 9) (gNil)))) (own := [("_law_left", 8), ("_law_right", 9)]) (by rfl) sc_law_stir.nd (RZ.pi_zipA (by rfl) TT.b_zip (pa_cons (pe_ix (ixL K) (pv 3) (pv 5) (fun _ _ => rfl)) (pa_cons (pe_ix (ixL K) (pv 3) (pv 6) (fun _ _ => rfl)) pa_nil))) (blkOk_by (own := [("_law_left", 8), ("_law_right", 9)]) (by rfl)) (fun _ _ _ _ _ => (pg_tup (by rfl) (pgs_cons (pg_name (i := 8) sc_law_stir.nd rfl (Or.inl rfl)) (pgs_cons (pg_name (i := 9) sc_law_stir.nd rfl (Or.inl rfl)) pgs_nil)))) (fun _ _ _ _ _ => pts_nil) (fun _ _ _ _ _ => (pe_op op_mod (pe_op op_add (pv 8) (pe_op op_mul (pv 7) (pv 9))) (pv 1)))) (pg_sub (pv 3) (pv 5) set_list)))
      pss_nil)
      (pss_one (ps_asg (pe_tup (pa_cons (pe_ix (ixL K) (pv 3) (pv 6) (fun _ _ => rfl)) (pa_cons (pe_ix (ixL K) (pv 3) (pv 5) (fun _ _ => rfl)) pa_nil))) (pg_tup (by rfl) (pgs_cons (pg_sub (pv 3) (pv 5) set_list) (pgs_cons (pg_sub (pv 3) (pv 6) set_list) pgs_nil))))))))
      (pss_one (ps_ret (pe_callTy (tupK K) (by rfl) TT.b_tuple (by decide +kernel) (pa_cons (pe_lc (g := gName 10) (own := [("_law_line", 10)]) (by rfl) sc_law_stir.nd (piL K (pv 3)) (blkOk_by (own := [("_law_line", 10)]) (by rfl)) (fun _ _ _ _ _ => (pg_name (i := 10) sc_law_stir.nd rfl (Or.inl rfl))) (fun _ _ _ _ _ => pts_nil) (fun _ _ _ _ _ => (pe_callTy (tupK K) (by rfl) TT.b_tuple (by decide +kernel) (pa_cons (pv 10) pa_nil)))) pa_nil)))))), ?_⟩
  have pb := hp.pos
  have s0 := ss_start (N := ["_law_row_here", "_law_prime", "_law_many", "_law_found", "_law_turn", "_law_one", "_law_other", "_law_factor", "_law_left", "_law_right", "_law_line"]) e r g
  refine s_asgL (A := fun l => l = (idR m).map rowL) ?_ s0 fun ds q W1 H1 hA v1 s1 o1 _ => ?_
  · have hid : (idR m).map rowL = (List.range ((m : Int)).toNat).map (fun (o : Nat) => D.lst ((List.range ((m : Int)).toNat).map (fun (i : Nat) => D.int (if decide ((i : Int) = (o : Int)) then 1 else 0)))) := by
      unfold idR
      rw [Int.toNat_natCast, List.map_map]
      apply List.map_congr_left
      intro o _
      show D.lst _ = D.lst _
      rw [List.map_map]
      rfl
    rw [hid]
    refine el_lcM (δ' := fun o => [.d r0.d, .d (.int p), .d (.int (m : Int)), .no, .no, .no, .d (.int (o : Int)), .no, .no, .no, .no]) (io_rng1 (a_1 (e_var rfl)) (by omega) (by omega)) (fun i _ => tg_name) (by omega) (fun i _ => rowD_nints fun d hd => ?_) fun o ho => ?_
    · obtain ⟨_, _, rfl⟩ := List.mem_map.mp hd
      rfl
    · refine El.e1 (el_lcM (δ' := fun i => [.d r0.d, .d (.int p), .d (.int (m : Int)), .no, .no, .d (.int (i : Int)), .d (.int (o : Int)), .no, .no, .no, .no]) (io_rng1 (a_1 (e_var rfl)) (by omega) (by omega)) (fun i _ => tg_name) (by omega) (fun i _ => rowD_rint ..) fun i hi => ?_)
      exact e_cb (a_1 (e_op (e_var rfl) (e_var rfl) o_eqI)) c_intB
  dsimp only
  subst hA
  refine s_for (io_rng1A (A := fun n => 0 ≤ n ∧ n < 5) ((aa_cons (e_call (r0, 5) (a_2 (e_var rfl) e_int) ⟨by show (0 : Int) < 5; omega, by show (5 : Int) < _; omega⟩) fun a ha => a_nil).imp fun ds ⟨a, rr, e1, ⟨n, e2, e3, e4⟩, e5⟩ => ⟨n, by rw [e1, e2, e5], e3, e4⟩) fun n hn => by omega) s1 fun n el W2 H2 hz z2 s2 => ?_
  obtain ⟨mm, hmm, rfl, rfl⟩ := hz
  refine ⟨fun i σ' W' H' => ∃ st a b c d x y, Stir p m st ∧ Ex K T W2 W' ∧ SS K T P W W H W' H' [.d r0.d, .d (.int p), .d (.int (m : Int)), .own q, a, b, c, d, x, y, .no] σ' ∧ Ow K W' H H' q (st.map rowL), ?_, ?_, ?_, ?_⟩
  · exact ⟨idR m, _, _, _, _, _, _, Stir.id, Ex.refl _, s2, o1.step z2.vv⟩
  · rintro i σ' W' H' _ ⟨st, a, b, c, d, x, y, _, e1, ss, _⟩
    exact ⟨e1, _, ss⟩
  · rintro i σ' W' H' hi ⟨st, a, b, c, d, x, y, hst, e1, ss, ow⟩
    refine ⟨_, _, [4], ss, tg_name, fun σ2 W5 H5 z5 s5 => ?_⟩
    have o5 := ow.step z5.vv
    obtain ⟨hlen, hrow⟩ := hst.ok pb.1
    refine s_tgt (A := fun d => ∃ x y : Nat, ∃ z : Int, d = .tup [.int (x : Int), .int (y : Int), .int z] ∧ x < m ∧ y < m ∧ 0 ≤ z ∧ z < 10) (vs := [5, 6, 7]) (δ' := fun d => [.d r0.d, .d (.int p), .d (.int (m : Int)), .own q, .d (.int (i : Int)), .d (getT d 0), .d (getT d 1), .d (getT d 2), x, y, .no]) ?_ s5 (fun d hd => ?_) fun d σ6 W6 H6 hd z6 s6 => ?_
    · refine (ee_tup (aa_cons (e_call (r0, (m : Int)) (a_2 (e_var rfl) (e_var rfl)) ⟨by show (0 : Int) < _; omega, by show _ < _; omega⟩) fun a ha => aa_cons (e_call (r0, (m : Int)) (a_2 (e_var rfl) (e_var rfl)) ⟨by show (0 : Int) < _; omega, by show _ < _; omega⟩) fun b hb => aa_cons (A := fun d => ∃ z : Int, d = .int z ∧ 0 ≤ z ∧ z < 10) (ee_op e_int (fun _ _ => e_call (r0, p - 1) (a_2 (e_var rfl) (e_op (e_var rfl) e_int o_sub)) ⟨by show (0 : Int) < _; omega, by show _ < _; omega⟩) fun a b ha hb => ?_) fun c hc => a_nil) fun ds hd => ?_).imp fun d hd => ?_
      · obtain ⟨n, rfl, b1, b2⟩ := hb
        subst ha
        exact fun W x y W1 H1 e1 e2 rx ry Q q => o_add W x y W1 H1 e1 e2 rx ry Q fun d v W' H2 hd => q d v W' H2 ⟨_, hd, by omega, by have b3 : n < p - 1 := b2; omega⟩
      · obtain ⟨_, _, rfl, _, _, _, rfl, _, _, _, rfl, _, rfl⟩ := hd
        show 3 ≤ 100000
        omega
      · obtain ⟨ds, rfl, _, _, rfl, ⟨n1, rfl, a1, a2⟩, _, _, rfl, ⟨n2, rfl, b1, b2⟩, _, _, rfl, ⟨n3, rfl, c1, c2⟩, rfl⟩ := hd
        obtain ⟨n1, rfl⟩ := Int.eq_ofNat_of_zero_le a1
        obtain ⟨n2, rfl⟩ := Int.eq_ofNat_of_zero_le b1
        have a3 : (n1 : Int) < (m : Int) := a2
        have b3 : (n2 : Int) < (m : Int) := b2
        exact ⟨n1, n2, n3, rfl, by omega, by omega, c1, c2⟩
    · obtain ⟨_, _, _, rfl, _⟩ := hd
      exact tg_3
    obtain ⟨n1, n2, n3, rfl, a1, a2, a3, a4⟩ := hd
    have o6 := o5.step z6.vv
    have h2 : getT (D.tup [.int (n1 : Int), .int (n2 : Int), .int n3]) 0 = .int (n1 : Int) ∧ getT (D.tup [.int (n1 : Int), .int (n2 : Int), .int n3]) 1 = .int (n2 : Int) ∧ getT (D.tup [.int (n1 : Int), .int (n2 : Int), .int n3]) 2 = .int n3 := ⟨rfl, rfl, rfl⟩
    rw [h2.1, h2.2.1, h2.2.2] at s6
    have hl1 : n1 < (st.map rowL).length := by rw [List.length_map]; omega
    have hl2 : n2 < (st.map rowL).length := by rw [List.length_map]; omega
    have fin : ∀ (D0 : Ends) st' σ' W' H', st'.length = m → Stir p m st' → Ex K T W2 W' → SS K T P W W H W' H' [.d r0.d, .d (.int p), .d (.int (m : Int)), .own q, .d (.int (i : Int)), .d (.int (n1 : Int)), .d (.int (n2 : Int)), .d (.int n3), x, y, .no] σ' → Ow K W' H H' q (st'.map rowL) →
        (∀ W6 H6 st2, Stir p m st2 → Ex K T W2 W6 → SS K T P W W H W6 H6 [.d r0.d, .d (.int p), .d (.int (m : Int)), .own q, .d (.int (i : Int)), .d (.int (n1 : Int)), .d (.int (n2 : Int)), .d (.int n3), x, y, .no] σ' → Ow K W6 H H6 q (st2.map rowL) → D0.nx σ' H6) →
        tAsg (tTup (tCons (tOp (rIxL K) (tVar 3) (tVar 6)) (tCons (tOp (rIxL K) (tVar 3) (tVar 5)) tNil))) (gTup K 2 (gCons (gSub (tVar 3) (tVar 5) rSetL) (gCons (gSub (tVar 3) (tVar 6) rSetL) gNil))) D0 σ' H' := fun D0 st' σ' W' H' hl' hst' ex' ss' ow' kk => by
      refine s_swap (n := 3) (na := 5) (nb := 6) (i := n1) (j := n2) rfl rfl rfl ow' ss' (by rw [List.length_map]; omega) (by rw [List.length_map]; omega) (by rw [getD_rowL (by omega), set_map]; exact rowL_not _) (by rw [getD_rowL (by omega), getD_rowL (by omega), set_map, set_map]; exact rowL_not _) fun H7 s7 o7 => ?_
      rw [getD_rowL (by omega), getD_rowL (by omega), set_map, set_map] at o7
      exact kk W' H7 _ (Stir.swap n1 n2 hst' a1 a2) ex' s7 o7
    have ex6 := e1.trans (z5.up.trans z6.up)
    refine s_if1 (t_t (e_op (e_var rfl) (e_var rfl) o_neI)) s6 (fun hb H9 e9 s9 => ?_) (fun hb H9 e9 s9 => ?_)
    · have hne : n1 ≠ n2 := fun z => by
        rw [z] at hb
        simp at hb
      refine s_setLF (A := fun ns => ns = addR p (st.getD n1 []) (st.getD n2 []) n3) (j := n1) rfl (o6.stay e9) rfl ?_ (e_var rfl) s9 hl1 (fun ns hns => ?_) fun ns W10 H10 hns e10 s10 o10 => ?_
      · have ok1 := hrow _ (getD_mem (d := []) (i := n1) (l := st) (by omega))
        have ok2 := hrow _ (getD_mem (d := []) (i := n2) (l := st) (by omega))
        have l1 : ((st.getD n1 []).map D.int).length = (st.getD n1 []).length := List.length_map ..
        refine El.imp (el_lcM (f := fun i => .int (((st.getD n1 []).getD i 0 + n3 * (st.getD n2 []).getD i 0) % p)) (δ' := fun i' => [.d r0.d, .d (.int p), .d (.int (m : Int)), .d (.lst (st.map rowL)), .d (.int (i : Int)), .d (.int (n1 : Int)), .d (.int (n2 : Int)), .d (.int n3), .d (.int ((st.getD n1 []).getD i' 0)), .d (.int ((st.getD n2 []).getD i' 0)), .no])
          (io_zipLL (l := (st.getD n1 []).map .int) (m := (st.getD n2 []).map .int) (a_2 (e_op (e_var rfl) (e_var rfl) (o_ixL ?_)) (e_op (e_var rfl) (e_var rfl) (o_ixL ?_))) ?_) (fun i' hi' => ?_) (by rw [l1, ok1.len]; omega) (fun i' _ => rowD_rint ..) fun i' hi' => ?_) fun l hl => ?_
        · exact atI_nat (by rw [List.getElem?_map, List.getElem?_eq_getElem (by omega), List.getD_eq_getElem?_getD, List.getElem?_eq_getElem (by omega)]; rfl)
        · exact atI_nat (by rw [List.getElem?_map, List.getElem?_eq_getElem (by omega), List.getD_eq_getElem?_getD, List.getElem?_eq_getElem (by omega)]; rfl)
        · rw [List.length_map, List.length_map, ok1.len, ok2.len]
        · rw [l1] at hi'
          rw [getD_int hi', getD_int (by rw [ok2.len, ← ok1.len]; exact hi')]
          exact tg_pair
        · refine e_op (e_op (e_var rfl) (e_op (e_var rfl) (e_var rfl) (o_mul (.inl ⟨by omega, by omega⟩))) o_add) (e_var rfl) (o_mod (by omega))
        · refine ⟨_, ?_, rfl⟩
          rw [hl, l1]
          unfold addR
          exact range_int _ _
      · rw [set_map]
        exact rowL_not _
      · subst hns
        rw [set_map] at o10
        dsimp only
        exact fin _ _ _ W10 _ (by rw [List.length_set]; exact hlen) (Stir.add n1 n2 n3 hst a1 a2 hne) (ex6.trans e10) s10 o10 fun W11 H11 st2 u1 u2 u3 u4 => ⟨W11, st2, _, _, _, _, _, _, u1, u2, u3, u4⟩
    · unfold tNext
      exact fin _ st _ W6 _ hlen hst ex6 s9 (o6.stay e9) fun W11 H11 st2 u1 u2 u3 u4 => ⟨W11, st2, _, _, _, _, _, _, u1, u2, u3, u4⟩
  · rintro σ' W' H' ⟨st, a, b, c, d, x, y, hst, e1, ss, ow⟩
    obtain ⟨hlen, hrow⟩ := hst.ok pb.1
    obtain ⟨W7, s7, e7, _⟩ := ss.release (n := 3) ow rfl
    have lst : (st.map rowL).length = st.length := List.length_map ..
    dsimp only
    refine s_ret1 (d := .tup (st.map rowT)) ?_ s7 e fun v W8 H8 z8 rv => k _ _ _ _ ⟨st, rfl, hst⟩ z8 rv
    refine e_cb (a_1 (El.e1 (l := st.map rowT) ?_)) c_tupL
    have hmap : st.map rowT = (List.range (st.map rowL).length).map (fun i => rowT (st.getD i [])) := by
      rw [lst]
      apply List.ext_getElem
      · simp
      · intro i h1 h2
        have hi1 : i < st.length := by simpa using h1
        have z : st.getD i [] = st[i] := by
          rw [List.getD_eq_getElem?_getD, List.getElem?_eq_getElem hi1]
          rfl
        simp only [List.getElem_map, List.getElem_range]
        rw [z]
    rw [hmap]
    refine el_lcM (δ' := fun i => [.d r0.d, .d (.int p), .d (.int (m : Int)), .d (.lst (st.map rowL)), a, b, c, d, x, y, .d (rowL (st.getD i []))]) (io_list (e_var rfl)) (fun i hi => Tg.cast (d' := rowL (st.getD i [])) (getD_rowL (by rw [lst] at hi; exact hi)) tg_name) (by rw [lst]; omega) (fun i _ => rowD_nints fun d hd => ?_) fun i hi => e_cb (a_1 (e_var rfl)) c_tupL
    obtain ⟨_, _, rfl⟩ := List.mem_map.mp hd
    rfl
end K11
/-! K11PM: a stir may be undone (plain). -/
namespace K11
structure StOk (p : Int) (n : Nat) (st : List (List Int)) : Prop where
  len : st.length = n
  row : ∀ r ∈ st, RowOk p n r
  full : (redR p st).length = n
/-! sums -/
def sm : Nat → (Nat → Int) → Int
  | 0, _ => 0
  | n + 1, g => sm n g + g n
theorem sm_congr {g h : Nat → Int} : ∀ {n : Nat}, (∀ i, i < n → g i = h i) → sm n g = sm n h
  | 0, _ => rfl
  | n + 1, e => by
    show sm n g + g n = sm n h + h n
    rw [sm_congr fun i hi => e i (by omega), e n (by omega)]
theorem sm_add (g h : Nat → Int) : ∀ n : Nat, sm n (fun i => g i + h i) = sm n g + sm n h
  | 0 => rfl
  | n + 1 => by
    show sm n _ + (g n + h n) = sm n g + g n + (sm n h + h n)
    rw [sm_add g h n]
    omega
theorem sm_mul (k : Int) (g : Nat → Int) : ∀ n : Nat, sm n (fun i => k * g i) = k * sm n g
  | 0 => by show (0 : Int) = k * 0; omega
  | n + 1 => by
    show sm n _ + k * g n = k * (sm n g + g n)
    rw [sm_mul k g n, Int.mul_add]
theorem sm_ext {g : Nat → Int} {m : Nat} : ∀ {n : Nat}, m ≤ n → (∀ i, m ≤ i → g i = 0) → sm n g = sm m g
  | 0, h, _ => by
    have z : m = 0 := by omega
    rw [z]
  | n + 1, h, e => by
    by_cases hm : m = n + 1
    · rw [hm]
    · show sm n g + g n = sm m g
      rw [sm_ext (n := n) (by omega) e, e n (by omega)]
      omega
theorem sm_upd {g h : Nat → Int} {a : Nat} : ∀ {n : Nat}, a < n → (∀ i, i < n → i ≠ a → h i = g i) → sm n h = sm n g + (h a - g a)
  | 0, ha, _ => absurd ha (Nat.not_lt_zero _)
  | n + 1, ha, e => by
    show sm n h + h n = sm n g + g n + (h a - g a)
    by_cases q : a = n
    · subst q
      rw [sm_congr fun i hi => e i (by omega) (by omega)]
      omega
    · rw [sm_upd (n := n) (by omega) fun i hi => e i (by omega), e n (by omega) fun z => q z.symm]
      omega
theorem sm_zero : ∀ {n : Nat} {g : Nat → Int}, (∀ i, i < n → g i = 0) → sm n g = 0
  | 0, _, _ => rfl
  | n + 1, g, e => by
    show sm n g + g n = 0
    rw [sm_zero fun i hi => e i (by omega), e n (by omega)]
    rfl
theorem sm_swap {g h : Nat → Int} {a b n : Nat} (ha : a < n) (hb : b < n) (e : ∀ i, i < n → i ≠ a → i ≠ b → h i = g i) (ea : h a = g b) (eb : h b = g a) : sm n h = sm n g := by
  by_cases q : a = b
  · subst q
    rw [sm_upd ha fun i h1 h2 => e i h1 h2 h2, ea]
    omega
  · have z1 : sm n (fun i => if i = a then h a else g i) = sm n g + (h a - g a) := by
      have z := sm_upd (g := g) (h := fun i => if i = a then h a else g i) ha fun i _ hi => if_neg hi
      simpa using z
    have z2 := sm_upd (g := fun i => if i = a then h a else g i) (h := h) hb fun i hi hib => by
      by_cases hia : i = a
      · rw [hia]; simp
      · rw [if_neg hia]; exact e i hi hia hib
    rw [z2, z1, if_neg fun z => q z.symm]
    omega
def Mt (st : List (List Int)) (i j : Nat) : Int := (st.getD i []).getD j 0
/-- no sum of multiples of the rows is nought but the sum of noughts -/
def Indep (p : Int) (n : Nat) (st : List (List Int)) : Prop := ∀ c : Nat → Int, (∀ j, j < n → p ∣ sm n (fun i => c i * Mt st i j)) → ∀ i, i < n → p ∣ c i
theorem getD_set {α : Type} {l : List α} {a i : Nat} {x d : α} (h : a < l.length) : (l.set a x).getD i d = if i = a then x else l.getD i d := by
  rw [List.getD_eq_getElem?_getD, List.getElem?_set]
  by_cases q : a = i
  · subst q
    rw [if_pos rfl, if_pos h, if_pos rfl]
    rfl
  · rw [if_neg q, if_neg fun z => q z.symm, List.getD_eq_getElem?_getD]
theorem indep_id {p : Int} {n : Nat} : Indep p n (idR n) := by
  intro c h i hi
  have z := h i hi
  have e : sm n (fun k => c k * Mt (idR n) k i) = c i := by
    have m : ∀ k, k < n → Mt (idR n) k i = if i = k then 1 else 0 := by
      intro k hk
      unfold Mt idR
      have e0 : ((List.range n).map fun (o : Nat) => (List.range n).map fun (i : Nat) => if decide ((i : Int) = (o : Int)) then (1 : Int) else 0).getD k [] = (List.range n).map fun (i : Nat) => if decide ((i : Int) = (k : Int)) then (1 : Int) else 0 := by
        rw [List.getD_eq_getElem?_getD, List.getElem?_map, List.getElem?_range hk]
        rfl
      rw [e0]
      rw [map_get, if_pos hi]
      by_cases q : i = k
      · simp [q]
      · simp [q, Int.ofNat_inj]
    have z0 : sm n (fun _ => (0 : Int)) = 0 := sm_zero fun _ _ => rfl
    rw [sm_upd (g := fun _ => 0) hi fun k hk hne => by rw [m k hk, if_neg (Ne.symm hne)]; omega, z0, m i hi, if_pos rfl]
    omega
  rw [e] at z
  exact z
theorem indep_add {p : Int} {n : Nat} {st : List (List Int)} (hl : st.length = n) (hr : ∀ r ∈ st, RowOk p n r) (h : Indep p n st) {a b : Nat} (f : Int) (ha : a < n) (hb : b < n) (hab : a ≠ b) :
    Indep p n (st.set a (addR p (st.getD a []) (st.getD b []) f)) := by
  intro c hc
  have la : (st.getD a []).length = n := (hr _ (getD_mem (by omega))).len
  have key : ∀ j, j < n → p ∣ sm n (fun i => (if i = b then c b + f * c a else c i) * Mt st i j) := by
    intro j hj
    have z := hc j hj
    have e1 : sm n (fun i => c i * Mt (st.set a (addR p (st.getD a []) (st.getD b []) f)) i j) = sm n (fun i => c i * Mt st i j) + (c a * ((Mt st a j + f * Mt st b j) % p) - c a * Mt st a j) := by
      have q := sm_upd (g := fun i => c i * Mt st i j) (h := fun i => c i * Mt (st.set a (addR p (st.getD a []) (st.getD b []) f)) i j) ha fun i hi hne => by
        unfold Mt
        rw [getD_set (by omega), if_neg hne]
      rw [q]
      have e : Mt (st.set a (addR p (st.getD a []) (st.getD b []) f)) a j = (Mt st a j + f * Mt st b j) % p := by
        unfold Mt
        rw [getD_set (by omega), if_pos rfl, addR_get (by omega)]
      rw [e]
    have e2 : sm n (fun i => (if i = b then c b + f * c a else c i) * Mt st i j) = sm n (fun i => c i * Mt st i j) + ((c b + f * c a) * Mt st b j - c b * Mt st b j) := by
      have q := sm_upd (g := fun i => c i * Mt st i j) (h := fun i => (if i = b then c b + f * c a else c i) * Mt st i j) hb fun i hi hne => by
        try dsimp only
        rw [if_neg hne]
      rw [q]
      try dsimp only
      rw [if_pos rfl]
    rw [e1] at z
    rw [e2]
    have dm := Int.emod_add_mul_ediv (Mt st a j + f * Mt st b j) p
    obtain ⟨q, hq⟩ := z
    refine ⟨q + c a * ((Mt st a j + f * Mt st b j) / p), ?_⟩
    grind
  have k := h _ key
  intro i hi
  have ka := k a ha
  rw [if_neg hab] at ka
  by_cases q : i = b
  · have kb := k b hb
    rw [if_pos rfl] at kb
    rw [q]
    obtain ⟨x, hx⟩ := ka
    obtain ⟨y, hy⟩ := kb
    exact ⟨y - f * x, by grind⟩
  · have ki := k i hi
    rw [if_neg q] at ki
    exact ki
theorem indep_swap {p : Int} {n : Nat} {st : List (List Int)} (hl : st.length = n) (h : Indep p n st) {a b : Nat} (ha : a < n) (hb : b < n) : Indep p n ((st.set a (st.getD b [])).set b (st.getD a [])) := by
  intro c hc
  have m : ∀ i j, Mt ((st.set a (st.getD b [])).set b (st.getD a [])) i j = if i = b then Mt st a j else if i = a then Mt st b j else Mt st i j := by
    intro i j
    unfold Mt
    rw [getD_set (by rw [List.length_set]; omega)]
    by_cases q : i = b
    · rw [if_pos q, if_pos q]
    · rw [if_neg q, if_neg q, getD_set (by omega)]
      by_cases q2 : i = a
      · rw [if_pos q2, if_pos q2]
      · rw [if_neg q2, if_neg q2]
  have key : ∀ j, j < n → p ∣ sm n (fun i => (if i = a then c b else if i = b then c a else c i) * Mt st i j) := by
    intro j hj
    have z := hc j hj
    rw [sm_swap (a := a) (b := b) (g := fun i => c i * Mt ((st.set a (st.getD b [])).set b (st.getD a [])) i j) ha hb]
    · exact z
    · intro i hi h1 h2
      try dsimp only
      rw [m, if_neg h1, if_neg h2, if_neg h2, if_neg h1]
    · try dsimp only
      rw [m, if_pos rfl, if_pos rfl]
    · try dsimp only
      rw [m]
      by_cases q : a = b
      · rw [q]; simp
      · rw [if_neg q, if_pos rfl, if_neg (Ne.symm q), if_pos rfl]
  have k := h _ key
  intro i hi
  by_cases q : i = a
  · have kb := k b hb
    by_cases q2 : b = a
    · rw [q2] at kb
      rw [if_pos rfl] at kb
      rw [q, ← q2]
      rw [q2]
      exact kb
    · rw [if_neg q2, if_pos rfl] at kb
      rw [q]
      exact kb
  · by_cases q2 : i = b
    · have ka := k a ha
      rw [if_pos rfl] at ka
      rw [q2]
      exact ka
    · have ki := k i hi
      rw [if_neg q, if_neg q2] at ki
      exact ki
theorem Stir.indep {p : Int} {n : Nat} {st : List (List Int)} (hp : 2 ≤ p) (h : Stir p n st) : Indep p n st := by
  induction h with
  | id => exact indep_id
  | @add st a b f h ha hb hab ih => exact indep_add (h.ok hp).1 (h.ok hp).2 ih f ha hb hab
  | @swap st a b h ha hb ih => exact indep_swap (h.ok hp).1 ih ha hb
/-- v is, but for multiples of p, a sum of multiples of the first k rows -/
def Spn (p : Int) (n k : Nat) (st : List (List Int)) (v : Nat → Int) : Prop := ∃ c : Nat → Int, (∀ i, k ≤ i → c i = 0) ∧ ∀ j, j < n → p ∣ v j - sm n (fun i => c i * Mt st i j)
section
variable {p : Int} {n k : Nat} {st : List (List Int)} {v w u : Nat → Int}
theorem Spn.mono (h : Spn p n k st v) : Spn p n (k + 1) st v := by
  obtain ⟨c, h1, h2⟩ := h
  exact ⟨c, fun i hi => h1 i (by omega), h2⟩
theorem Spn.zero : Spn p n k st (fun _ => 0) := by
  refine ⟨fun _ => 0, fun _ _ => rfl, fun j hj => ?_⟩
  rw [sm_zero fun i hi => by show (0 : Int) * _ = 0; omega]
  exact ⟨0, by show (0 : Int) - 0 = p * 0; omega⟩
theorem Spn.comb (h : Spn p n k st v) (g : Spn p n k st w) (f e : Int) (hu : ∀ j, j < n → p ∣ u j - (e * v j + f * w j)) : Spn p n k st u := by
  obtain ⟨c, h1, h2⟩ := h
  obtain ⟨d, g1, g2⟩ := g
  refine ⟨fun i => e * c i + f * d i, fun i hi => by (try dsimp only); rw [h1 i hi, g1 i hi]; omega, fun j hj => ?_⟩
  have z : sm n (fun i => (e * c i + f * d i) * Mt st i j) = e * sm n (fun i => c i * Mt st i j) + f * sm n (fun i => d i * Mt st i j) := by
    rw [← sm_mul, ← sm_mul, ← sm_add]
    exact sm_congr fun i _ => by grind
  rw [z]
  obtain ⟨x, hx⟩ := h2 j hj
  obtain ⟨y, hy⟩ := g2 j hj
  obtain ⟨t, ht⟩ := hu j hj
  exact ⟨t + e * x + f * y, by grind⟩
theorem Spn.row (hk : k < n) : Spn p n (k + 1) st (fun j => Mt st k j) := by
  refine ⟨fun i => if i = k then 1 else 0, fun i hi => if_neg (by omega), fun j hj => ?_⟩
  have z0 : sm n (fun _ => (0 : Int)) = 0 := sm_zero fun _ _ => rfl
  have z := sm_upd (g := fun _ => 0) (h := fun i => (if i = k then (1 : Int) else 0) * Mt st i j) hk fun i hi hne => by (try dsimp only); rw [if_neg hne]; omega
  rw [z, z0]
  dsimp only
  rw [if_pos rfl]
  exact ⟨0, by omega⟩
theorem emod_dvd (x p : Int) : p ∣ x % p - x := ⟨-(x / p), by have := Int.emod_add_mul_ediv x p; grind⟩
theorem elim_span : ∀ (found : List (List Int)) (r : List Int), r.length = n → (∀ own ∈ found, Spn p n k st (fun j => own.getD j 0)) → (elimR p r found).length = n ∧ ∃ s : Nat → Int, Spn p n k st s ∧ ∀ j, j < n → p ∣ (elimR p r found).getD j 0 - (r.getD j 0 + s j)
  | [], r, hr, _ => ⟨hr, fun _ => 0, Spn.zero, fun j _ => ⟨0, by show r.getD j 0 - (r.getD j 0 + 0) = p * 0; omega⟩⟩
  | own :: found, r, hr, h => by
    obtain ⟨l, s, h1, h2⟩ := elim_span found (addR p r own (-(r.getD (kOf own) 0))) (by rw [addR_len]; exact hr) fun o ho => h o (List.mem_cons_of_mem _ ho)
    refine ⟨l, fun j => s j + -(r.getD (kOf own) 0) * own.getD j 0, Spn.comb h1 (h own (List.mem_cons_self ..)) (-(r.getD (kOf own) 0)) 1 fun j hj => ⟨0, by grind⟩, fun j hj => ?_⟩
    obtain ⟨x, hx⟩ := h2 j hj
    rw [addR_get (by omega)] at hx
    obtain ⟨y, hy⟩ := emod_dvd (r.getD j 0 + -(r.getD (kOf own) 0) * own.getD j 0) p
    show p ∣ (elimR p (addR p r own (-(r.getD (kOf own) 0))) found).getD j 0 - _
    exact ⟨x + y, by grind⟩
theorem lead_zero : ∀ {ns : List Int}, leadI ns = none → ∀ j, ns.getD j 0 = 0
  | [], _, j => by simp
  | x :: r, h, j => by
    unfold leadI at h
    by_cases e : x = 0
    · rw [if_pos e] at h
      cases q : leadI r with
      | none =>
        cases j with
        | zero => exact e
        | succ j => exact lead_zero q j
      | some k =>
        rw [q] at h
        cases h
    · rw [if_neg e] at h
      cases h
theorem red_len (hp : 2 ≤ p) (hl : st.length = n) (hr : ∀ r ∈ st, RowOk p n r) (hi : Indep p n st) : ∀ k, k ≤ n →
    (redR p (st.take k)).length = k ∧ ∀ own ∈ redR p (st.take k), own.length = n ∧ Spn p n k st (fun j => own.getD j 0)
  | 0, _ => ⟨rfl, fun own h => by cases h⟩
  | k + 1, hk => by
    obtain ⟨h1, h2⟩ := red_len hp hl hr hi k (by omega)
    have e : redR p (st.take (k + 1)) = stepR p (redR p (st.take k)) (st.getD k []) := by
      unfold redR
      rw [take_get st [] (by omega), List.foldl_append]
      rfl
    rw [e]
    generalize redR p (st.take k) = found at h1 h2
    have lk : (st.getD k []).length = n := (hr _ (getD_mem (by omega))).len
    obtain ⟨l, s, s1, s2⟩ := elim_span found (st.getD k []) lk fun own ho => (h2 own ho).2
    unfold stepR
    cases q : leadI (elimR p (st.getD k []) found) with
    | none =>
      exfalso
      obtain ⟨c, c1, c2⟩ := s1
      have key : ∀ j, j < n → p ∣ sm n (fun i => (if i = k then 1 else c i) * Mt st i j) := by
        intro j hj
        have z := sm_upd (g := fun i => c i * Mt st i j) (h := fun i => (if i = k then 1 else c i) * Mt st i j) (n := n) (a := k) (by omega) fun i hi hne => by (try dsimp only); rw [if_neg hne]
        rw [z]
        try dsimp only
        rw [if_pos rfl, c1 k (Nat.le_refl _)]
        obtain ⟨x, hx⟩ := c2 j hj
        obtain ⟨y, hy⟩ := s2 j hj
        rw [lead_zero q j] at hy
        have m : Mt st k j = (st.getD k []).getD j 0 := rfl
        exact ⟨-x - y, by grind⟩
      have z := hi _ key k (by omega)
      rw [if_pos rfl] at z
      have := Int.le_of_dvd (by omega) z
      omega
    | some a =>
      try dsimp only
      have sr : Spn p n (k + 1) st (fun j => (elimR p (st.getD k []) found).getD j 0) := by
        refine Spn.comb (Spn.row (p := p) (st := st) (k := k) (by omega)) s1.mono 1 1 fun j hj => ?_
        obtain ⟨y, hy⟩ := s2 j hj
        have m : Mt st k j = (st.getD k []).getD j 0 := rfl
        exact ⟨y, by grind⟩
      generalize elimR p (st.getD k []) found = r at l sr
      generalize invN p (r.getD a 0) = g
      have sq : Spn p n (k + 1) st (fun j => (sclR p r g).getD j 0) := by
        refine Spn.comb sr Spn.zero 0 g fun j hj => ?_
        rw [sclR_get (by omega)]
        obtain ⟨y, hy⟩ := emod_dvd (g * r.getD j 0) p
        exact ⟨y, by grind⟩
      refine ⟨by rw [List.length_append, List.length_map, h1]; rfl, fun own ho => ?_⟩
      rcases List.mem_append.mp ho with ho | ho
      · obtain ⟨o, hoo, rfl⟩ := List.mem_map.mp ho
        obtain ⟨o1, o2⟩ := h2 o hoo
        refine ⟨by rw [addR_len]; exact o1, Spn.comb o2.mono sq (-(o.getD a 0)) 1 fun j hj => ?_⟩
        rw [addR_get (by omega)]
        obtain ⟨y, hy⟩ := emod_dvd (o.getD j 0 + -(o.getD a 0) * (sclR p r g).getD j 0) p
        exact ⟨y, by grind⟩
      · rw [List.mem_singleton.mp ho]
        exact ⟨by rw [sclR_len]; exact l, sq⟩
end
theorem Stir.full {p : Int} {n : Nat} {st : List (List Int)} (h : Stir p n st) (hp : isPr p) (hn : 1 ≤ n) : StOk p n st := by
  obtain ⟨h1, h2⟩ := h.ok hp.pos.1
  have k := (red_len hp.pos.1 h1 h2 (h.indep hp.pos.1) n (Nat.le_refl _)).1
  rw [List.take_of_length_le (by omega)] at k
  exact ⟨h1, h2, k⟩
end K11
/-! K11Q: the machine that the law draws. -/
namespace K11
open PySem PySem.Spec PyProof.Rows
open L2
structure Mac where
  p : Int
  n : Nat
  st : List (List Int)
  wr : List (List Int)
  si : List (List Int)
abbrev rowsT (rs : List (List Int)) : D := .tup (rs.map rowT)
abbrev Mac.d (m : Mac) : D := .tup [.int m.p, rowsT m.st, rowsT m.wr, rowsT m.si]
structure Plug (p : Int) (n : Nat) (rs : List (List Int)) : Prop where
  lo : 1 ≤ rs.length
  hi : rs.length ≤ 4
  row : ∀ r ∈ rs, RowOk p n r
structure Mac.Ok (m : Mac) : Prop where
  pr : isPr m.p
  n1 : 1 ≤ m.n
  n4 : m.n ≤ 4
  st : StOk m.p m.n m.st
  wr : Plug m.p m.n m.wr
  si : Plug m.p m.n m.si
theorem rows_of {p : Int} {n : Nat} : ∀ {l : List D}, (∀ d ∈ l, ∃ ns, d = rowT ns ∧ RowOk p n ns) → ∃ rs : List (List Int), l = rs.map rowT ∧ ∀ r ∈ rs, RowOk p n r
  | [], _ => ⟨[], rfl, fun x h => by cases h⟩
  | d :: l, h => by
    obtain ⟨ns, rfl, h1⟩ := h d (List.mem_cons_self ..)
    obtain ⟨rs, rfl, hr⟩ := rows_of (l := l) fun x hx => h x (List.mem_cons_of_mem _ hx)
    exact ⟨ns :: rs, rfl, fun x hx => by
      rcases List.mem_cons.mp hx with rfl | hx
      · exact h1
      · exact hr x hx⟩
variable {PP : Program} {w : World} {K : PySem.W.Frag} {T : List (Addr × Str)} {P : List Addr} {mg : Str → Option Value} {base : Heap}
theorem sc_law_machine : FnScope ["_law_row_here", "_law_primes", "_law_cells", "_law_plugs", "_law_prime", "_law_many", "_law_writes", "_law_sights", "_law_turn"] ["_law_row_here", "_law_primes", "_law_cells", "_law_plugs"] (defScope (topS 48)) := ⟨rfl, rfl, rfl, by decide +kernel, rfl, by decide +kernel, by decide +kernel⟩
abbrev sp_mac (K : PySem.W.Frag) (T : List (Addr × Str)) (P : List Addr) : Sp := spF K T P (ι := Dw) (fun i => [i.d, .lst [.int 2, .int 3, .int 5, .int 7], .int 4, .int 3]) (fun _ => True) (fun i d => ∃ m : Mac, d = m.d ∧ m.Ok)
theorem ok_mac {f f1 f2 f3 f4 : Addr} {fd fd1 fd2 fd3 fd4 : FuncData} (TT : Tx K mg) (F : Dfn K mg "_law_machine" 48 ["_law_row_here", "_law_primes", "_law_cells", "_law_plugs"] f fd)
    (D_law_taken : Dfn K mg "_law_taken" 43 ["_law_row_here", "_law_many"] f1 fd1) (G_law_taken : FnOk PP w K mg base CX0 1 f1 fd1 ["_law_row_here", "_law_many"] (sp_taken K T P))
    (D_law_pick : Dfn K mg "_law_pick" 44 ["_law_row_here", "_law_things"] f2 fd2) (G_law_pick : FnOk PP w K mg base CX0 2 f2 fd2 ["_law_row_here", "_law_things"] (sp_pick K T P))
    (D_law_row : Dfn K mg "_law_row" 46 ["_law_row_here", "_law_prime", "_law_many"] f3 fd3) (G_law_row : FnOk PP w K mg base CX0 2 f3 fd3 ["_law_row_here", "_law_prime", "_law_many"] (sp_lrow K T P))
    (D_law_stir : Dfn K mg "_law_stir" 47 ["_law_row_here", "_law_prime", "_law_many"] f4 fd4) (G_law_stir : FnOk PP w K mg base CX0 2 f4 fd4 ["_law_row_here", "_law_prime", "_law_many"] (sp_stir K T P)) :
    FnOk PP w K mg base CX0 3 f fd ["_law_row_here", "_law_primes", "_law_cells", "_law_plugs"] (sp_mac K T P) := by
  refine F.ok sc_law_machine (spF_len fun _ => rfl) fun cdv A outer s H vs Q XE hr h => ?_
  obtain ⟨r0, W, e, r, g, _, k⟩ := h
  dsimp only at k r
  refine ⟨_, (pss_cons (ps_asg (pe_tup (pa_cons (pe_call G_law_pick (hr.mono (by decide)) (by rfl) D_law_pick.mg D_law_pick.kp D_law_pick.b .nil pass0 (pa_cons (pv 0) (pa_cons (pv 1) pa_nil))) (pa_cons (pe_op op_add pe_int (pe_call G_law_taken (hr.mono (by decide)) (by rfl) D_law_taken.mg D_law_taken.kp D_law_taken.b .nil pass0 (pa_cons (pv 0) (pa_cons (pv 2) pa_nil)))) pa_nil))) (pg_tup (by rfl) (pgs_cons (pg_name (i := 4) sc_law_machine.nd rfl (Or.inr rfl)) (pgs_cons (pg_name (i := 5) sc_law_machine.nd rfl (Or.inr rfl)) pgs_nil))))
      (pss_cons (ps_setLc (i := 6) (by rfl) sc_law_machine.nd rfl rfl (sw_true rfl rfl rfl (by decide +kernel)) (g := gName 8) (own := [("_law_turn", 8)]) (pi_range1 (by rfl) TT.b_range (pa_cons (pe_op op_add pe_int (pe_call G_law_taken (hr.mono (by decide)) (by rfl) D_law_taken.mg D_law_taken.kp D_law_taken.b .nil pass0 (pa_cons (pv 0) (pa_cons (pv 3) pa_nil)))) pa_nil)) (blkOk_by (own := [("_law_turn", 8)]) (by rfl)) (fun _ _ _ _ _ => (pg_name (i := 8) sc_law_machine.nd rfl (Or.inl rfl))) (fun _ _ _ _ _ => pts_nil) (fun _ _ _ _ _ => (pe_call G_law_row (hr.mono (by decide)) (by rfl) D_law_row.mg D_law_row.kp D_law_row.b .nil pass0 (pa_cons (pv 0) (pa_cons (pv 4) (pa_cons (pv 5) pa_nil))))))
      (pss_cons (ps_setLc (i := 7) (by rfl) sc_law_machine.nd rfl rfl (sw_true rfl rfl rfl (by decide +kernel)) (g := gName 8) (own := [("_law_turn", 8)]) (pi_range1 (by rfl) TT.b_range (pa_cons (pe_op op_add pe_int (pe_call G_law_taken (hr.mono (by decide)) (by rfl) D_law_taken.mg D_law_taken.kp D_law_taken.b .nil pass0 (pa_cons (pv 0) (pa_cons (pv 3) pa_nil)))) pa_nil)) (blkOk_by (own := [("_law_turn", 8)]) (by rfl)) (fun _ _ _ _ _ => (pg_name (i := 8) sc_law_machine.nd rfl (Or.inl rfl))) (fun _ _ _ _ _ => pts_nil) (fun _ _ _ _ _ => (pe_call G_law_row (hr.mono (by decide)) (by rfl) D_law_row.mg D_law_row.kp D_law_row.b .nil pass0 (pa_cons (pv 0) (pa_cons (pv 4) (pa_cons (pv 5) pa_nil))))))
      (pss_one (ps_ret (pe_tup (pa_cons (pv 4) (pa_cons (pe_call G_law_stir (hr.mono (by decide)) (by rfl) D_law_stir.mg D_law_stir.kp D_law_stir.b .nil pass0 (pa_cons (pv 0) (pa_cons (pv 4) (pa_cons (pv 5) pa_nil)))) (pa_cons (pe_callTy (tupK K) (by rfl) TT.b_tuple (by decide +kernel) (pa_cons (pv 6) pa_nil)) (pa_cons (pe_callTy (tupK K) (by rfl) TT.b_tuple (by decide +kernel) (pa_cons (pv 7) pa_nil)) pa_nil)))))))))), ?_⟩
  have s0 := ss_start (N := ["_law_row_here", "_law_primes", "_law_cells", "_law_plugs", "_law_prime", "_law_many", "_law_writes", "_law_sights", "_law_turn"]) e r g
  refine s_tgt (A := fun d => ∃ (p : Int) (m : Nat), d = .tup [.int p, .int (m : Int)] ∧ isPr p ∧ 1 ≤ m ∧ m ≤ 4) (vs := [4, 5]) (δ' := fun d => [.d r0.d, .d (.lst [.int 2, .int 3, .int 5, .int 7]), .d (.int 4), .d (.int 3), .d (getT d 0), .d (getT d 1), .no, .no, .no]) ?_ s0 (fun d hd => ?_) fun d σ1 W1 H1 hd z1 s1 => ?_
  · refine (ee_tup (aa_cons (e_call (r0, [.int 2, .int 3, .int 5, .int 7]) (a_2 (e_var rfl) (e_var rfl)) ⟨by show 0 < 4; omega, by show 4 < 100000; omega⟩) fun a ha => aa_cons (A := fun d => ∃ m : Nat, d = .int (m : Int) ∧ 1 ≤ m ∧ m ≤ 4) (ee_op e_int (fun _ _ => e_call (r0, 4) (a_2 (e_var rfl) (e_var rfl)) ⟨by show (0 : Int) < 4; omega, by show (4 : Int) < _; omega⟩) fun a b ha hb => ?_) fun c hc => a_nil) fun ds hd => ?_).imp fun d hd => ?_
    · obtain ⟨n, rfl, b1, b2⟩ := hb
      subst ha
      have b3 : n < 4 := b2
      exact fun W x y W1 H1 e1 e2 rx ry Q q => o_add W x y W1 H1 e1 e2 rx ry Q fun d v W' H2 hd => q d v W' H2 ⟨(1 + n).toNat, by rw [hd]; congr 1; omega, by omega, by omega⟩
    · obtain ⟨_, _, rfl, _, _, _, rfl, _, rfl⟩ := hd
      show 2 ≤ 100000
      omega
    · obtain ⟨ds, rfl, _, _, rfl, ha, _, _, rfl, ⟨n2, rfl, b1, b2⟩, rfl⟩ := hd
      have ha2 : _ ∈ [D.int 2, .int 3, .int 5, .int 7] := ha
      simp only [List.mem_cons, List.not_mem_nil, or_false] at ha2
      rcases ha2 with rfl | rfl | rfl | rfl
      · exact ⟨2, n2, rfl, by unfold isPr; omega, b1, b2⟩
      · exact ⟨3, n2, rfl, by unfold isPr; omega, b1, b2⟩
      · exact ⟨5, n2, rfl, by unfold isPr; omega, b1, b2⟩
      · exact ⟨7, n2, rfl, by unfold isPr; omega, b1, b2⟩
  · obtain ⟨_, _, rfl, _⟩ := hd
    exact tg_pair
  obtain ⟨p, m, rfl, hp, hm1, hm4⟩ := hd
  have g2 : getT (D.tup [.int p, .int (m : Int)]) 0 = .int p ∧ getT (D.tup [.int p, .int (m : Int)]) 1 = .int (m : Int) := ⟨rfl, rfl⟩
  rw [g2.1, g2.2] at s1
  have rws : ∀ (x y : Sl) {B : Hp}, E K T P B (tLc (iRng1 (tCons (tOp (rI0 fun i j => .int (i + j)) (tC (.int 1)) (tCall (sp_taken K T P) [] (fun _ _ _ => False) (tCons (tVar 0) (tCons (tVar 3) tNil)))) tNil)) (gName 8) tYes (tCall (sp_lrow K T P) [] (fun _ _ _ => False) (tCons (tVar 0) (tCons (tVar 4) (tCons (tVar 5) tNil)))) [8])
      [.d r0.d, .d (.lst [.int 2, .int 3, .int 5, .int 7]), .d (.int 4), .d (.int 3), .d (.int p), .d (.int (m : Int)), x, y, .no] (fun d => ∃ rs, d = .lst (rs.map rowT) ∧ Plug p m rs) := by
    intro x y B
    refine E.imp (El.e (el_lcQ (A := fun d => ∃ ns, d = rowT ns ∧ RowOk p m ns) (Z := fun n el => ∃ m : Int, (1 ≤ m ∧ m ≤ 3) ∧ n = m.toNat ∧ el = fun i => .int (i : Int)) (δ' := fun _ _ i => [.d r0.d, .d (.lst [.int 2, .int 3, .int 5, .int 7]), .d (.int 4), .d (.int 3), .d (.int p), .d (.int (m : Int)), x, y, .d (.int (i : Int))]) (io_rng1A (A := fun n => 1 ≤ n ∧ n ≤ 3) (Ea.imp (aa_cons (A := fun d => ∃ n : Int, d = .int n ∧ 1 ≤ n ∧ n ≤ 3) (ee_op e_int (fun _ _ => e_call (r0, 3) (a_2 (e_var rfl) (e_var rfl)) ⟨by show (0 : Int) < 3; omega, by show (3 : Int) < _; omega⟩) fun a b ha hb => ?_) fun a ha => a_nil) fun ds hd => ?_) fun n hn => by omega) (fun n el i hz hi => ?_) (fun n el hz => ?_) (fun l hl => rowD_nints fun d hd => ?_) fun n el i hz hi => ?_)) fun d hd => ?_
    · obtain ⟨n, rfl, b1, b2⟩ := hb
      subst ha
      have b3 : n < 3 := b2
      exact fun W x y W1 H1 e1 e2 rx ry Q q => o_add W x y W1 H1 e1 e2 rx ry Q fun d v W' H2 hd => q d v W' H2 ⟨_, hd, by omega, by omega⟩
    · obtain ⟨a, rr, e1, ⟨n, e2, e3, e4⟩, e5⟩ := hd
      exact ⟨n, by rw [e1, e2, e5], e3, e4⟩
    · obtain ⟨_, _, rfl, rfl⟩ := hz
      exact tg_name
    · obtain ⟨_, _, rfl, rfl⟩ := hz
      omega
    · obtain ⟨_, rfl, _⟩ := hl d hd
      rfl
    · exact e_call (r0, p, m) (a_3 (e_var rfl) (e_var rfl) (e_var rfl)) ⟨hp, hm4⟩
    · obtain ⟨l, rfl, n, el, ⟨mm, hmm, rfl, rfl⟩, h3, h4⟩ := hd
      obtain ⟨rs, rfl, hr2⟩ := rows_of h4
      rw [List.length_map] at h3
      exact ⟨rs, rfl, ⟨by omega, by omega, hr2⟩⟩
  refine s_asg (rws _ _) s1 fun d v2 W2 H2 hd z2 s2 => ?_
  obtain ⟨wr, rfl, hwr⟩ := hd
  refine s_asg (rws _ _) s2 fun d v3 W3 H3 hd z3 s3 => ?_
  obtain ⟨si, rfl, hsi⟩ := hd
  dsimp only
  refine s_ret (A := fun d => ∃ m : Mac, d = m.d ∧ m.Ok) ?_ s3 e fun d v W' H2 hd z rv => k _ _ _ _ hd z rv
  refine (ee_tup (aa_cons (e_var rfl) fun a ha => aa_cons (e_call (r0, p, m) (a_3 (e_var rfl) (e_var rfl) (e_var rfl)) ⟨hp, hm1, hm4⟩) fun b hb => aa_cons (e_cb (a_1 (e_var rfl)) c_tupL) fun c hc => aa_cons (e_cb (a_1 (e_var rfl)) c_tupL) fun c hc => a_nil) fun ds hd => ?_).imp fun d hd => ?_
  · obtain ⟨_, _, rfl, _, _, _, rfl, _, _, _, rfl, _, _, _, rfl, _, rfl⟩ := hd
    show 4 ≤ 100000
    omega
  · obtain ⟨ds, rfl, _, _, rfl, rfl, _, _, rfl, ⟨st, rfl, hst⟩, _, _, rfl, rfl, _, _, rfl, rfl, rfl⟩ := hd
    exact ⟨⟨p, m, st, wr, si⟩, rfl, ⟨hp, hm1, hm4, hst.full hp hm1, hwr, hsi⟩⟩
end K11
/-! K11X: the program that the law draws. -/
namespace K11
open PySem PySem.Spec PyProof.Rows
open L2
inductive O0 where
  | say | ask | stop | wait
inductive O1 where
  | get | plus | minus | add | take | put | zero | go
def O0.nm : O0 → Str
  | .say => "say"
  | .ask => "ask"
  | .stop => "stop"
  | .wait => "wait"
def O1.nm : O1 → Str
  | .get => "get"
  | .plus => "plus"
  | .minus => "minus"
  | .add => "add"
  | .take => "take"
  | .put => "put"
  | .zero => "zero"
  | .go => "go"
inductive Ins where
  | z (o : O0) | u (o : O1) (n : Int)
def Ins.d : Ins → D
  | .z o => .tup [.str o.nm]
  | .u o n => .tup [.str o.nm, .int n]
def O1.top (L : Nat) : O1 → Int
  | .put => 6
  | .zero => L
  | .go => L
  | _ => 3
def InsOk (L : Nat) : Ins → Prop
  | .z _ => True
  | .u o n => 0 ≤ n ∧ n ≤ o.top L
abbrev progT (l : List Ins) : D := .tup (l.map Ins.d)
theorem ins_not : ∀ (l : List Ins), rowD (l.map Ins.d) = false := fun l => rowD_nints fun d hd => by
  obtain ⟨i, _, rfl⟩ := List.mem_map.mp hd
  cases i <;> rfl
section
variable {K : PySem.W.Frag} {T : List (Addr × Str)} {P : List Addr} {B : Hp} {δ δ' : List Sl} {te ta tc : TE} {A : D → Prop} {wi : TI} {a b c d : D} {W W0 H H1 H2 : Hp} {σ : L2.St} {t : TT} {tu tw : TS} {D0 : Ends}
/-- x, own = e, [] -/
theorem s_parO {n m : Nat} (h : E K T P B te δ A) (s : SS K T P B W0 H W H1 δ σ) (k : ∀ d v p W' H2, A d → Vw K T W H1 W' H2 → SS K T P B W0 H W' (upd H2 p (.lst [])) ((δ.set n (.d d)).set m (.own p)) ((σ.set n (some v)).set m (some (.ref p))) → Ow K W' H (upd H2 p (.lst [])) p [] → D0.nx ((σ.set n (some v)).set m (some (.ref p))) (upd H2 p (.lst []))) :
    tPar n m (tCons te (tCons (tLst tNil) tNil)) D0 σ H1 := h σ W s.r H1 s.y.to _ fun d v W' H2 hd z rv => by
  refine ⟨by show 0 ≤ sizeLine; decide, fun p hp => ⟨v, .ref p, rfl, ?_⟩⟩
  have s2 := s.step z.vv
  obtain ⟨y, n1, n2⟩ := s2.y.own (o := .lst []) hp
  exact k d v p W' H2 hd z ⟨y, (s2.r.set rv).setO⟩ ⟨n1, n2, [], upd_same, True.intro, rfl⟩
/-- own, own' = [], [] -/
theorem s_own2 {n m : Nat} (s : SS K T P B W0 H W H1 δ σ) (k : ∀ p q H2, p ≠ q → SS K T P B W0 H W H2 ((δ.set n (.own p)).set m (.own q)) ((σ.set n (some (.ref p))).set m (some (.ref q))) → Ow K W H H2 p [] → Ow K W H H2 q [] → D0.nx ((σ.set n (some (.ref p))).set m (some (.ref q))) H2) :
    tAsg (tTup (tCons (tLst tNil) (tCons (tLst tNil) tNil))) (gTup K 2 (gCons (gName n) (gCons (gName m) gNil))) D0 σ H1 := by
  refine ⟨by show 0 ≤ sizeLine; decide, fun p hp => ⟨by show 0 ≤ sizeLine; decide, fun q hq => ⟨by show 2 ≤ sizeLine; decide, fun r hr => ?_⟩⟩⟩
  have npq : p ≠ q := fun e => by
    rw [e, upd_same] at hq
    cases hq
  have nrp : p ≠ r := fun e => by
    rw [← e, upd_ne npq, upd_same] at hr
    cases hr
  have nrq : q ≠ r := fun e => by
    rw [← e, upd_same] at hr
    cases hr
  obtain ⟨y1, a1, a2⟩ := s.y.own (o := .lst []) hp
  obtain ⟨y2, b1, b2⟩ := y1.own (o := .lst []) hq
  have y3 := y2.same (Ex.new (K := K) (T := T) (o := .tup [.ref p, .ref q]) hr)
  refine ⟨r, [.ref p, .ref q], rfl, SqT.of upd_same, rfl, _, _, rfl, _, _, rfl, rfl, k p q _ npq ⟨y3, s.r.setO.setO⟩ ⟨a1, a2, [], ?_, True.intro, rfl⟩ ⟨b1, b2, [], ?_, True.intro, rfl⟩⟩
  · rw [upd_ne nrp, upd_ne npq, upd_same]
  · rw [upd_ne nrq, upd_same]
theorem io_rngN {ta : TA} {m : Nat} (h : Ea1 K T P B ta δ [.int (m : Int)]) (hm : m ≤ 100000) : Io1 K T P B (iRng1 ta) δ m (fun i => .int (i : Int)) := io_rng1 h (by omega) (by omega)
theorem ee_lst {ta : TA} {A : List D → Prop} (h : Ea K T P B ta δ A) (hl : ∀ ds, A ds → ds.length ≤ 100000) (hr : ∀ ds, A ds → rowD ds = false) : E K T P B (tLst ta) δ (fun d => ∃ ds, d = .lst ds ∧ A ds) := fun σ W R => ev_lst (h σ W R) hl fun ds vs H hA r => rowish_of r (hr ds hA)
theorem aaN {tr : TA} {D2 : List D → Prop} (ha : E K T P B ta δ A) (hr : Ea K T P B tr δ D2) : Ea K T P B (tCons ta tr) δ (fun ds => ∃ a r, ds = a :: r ∧ A a ∧ D2 r) := aa_cons ha fun _ _ => hr
end
theorem len_map {α β : Type} (f : α → β) (l : List α) : (l.map f).length = l.length := List.length_map ..
variable {PP : Program} {w : World} {K : PySem.W.Frag} {T : List (Addr × Str)} {P : List Addr} {mg : Str → Option Value} {base : Heap}
theorem sc_law_program : FnScope ["_law_row_here", "_law_prime", "_law_values", "_law_most", "_law_size", "_law_found", "_law_turn", "_law_way", "_law_shown"] ["_law_row_here", "_law_prime", "_law_values", "_law_most"] (defScope (topS 49)) := ⟨rfl, rfl, rfl, by decide +kernel, rfl, by decide +kernel, by decide +kernel⟩
abbrev sp_prog (K : PySem.W.Frag) (T : List (Addr × Str)) (P : List Addr) : Sp := spF K T P (ι := Dw × Int) (fun i => [i.1.d, .int i.2, .int 3, .int 7]) (fun i => isPr i.2) (fun i d => ∃ l : List Ins, d = progT l ∧ 1 ≤ l.length ∧ l.length ≤ 7 ∧ ∀ x ∈ l, InsOk l.length x)
theorem ok_prog {f f1 f2 : Addr} {fd fd1 fd2 : FuncData} (TT : Tx K mg) (F : Dfn K mg "_law_program" 49 ["_law_row_here", "_law_prime", "_law_values", "_law_most"] f fd)
    (D_law_taken : Dfn K mg "_law_taken" 43 ["_law_row_here", "_law_many"] f1 fd1) (G_law_taken : FnOk PP w K mg base CX0 1 f1 fd1 ["_law_row_here", "_law_many"] (sp_taken K T P))
    (D_law_pick : Dfn K mg "_law_pick" 44 ["_law_row_here", "_law_things"] f2 fd2) (G_law_pick : FnOk PP w K mg base CX0 2 f2 fd2 ["_law_row_here", "_law_things"] (sp_pick K T P)) :
    FnOk PP w K mg base CX0 3 f fd ["_law_row_here", "_law_prime", "_law_values", "_law_most"] (sp_prog K T P) := by
  refine F.ok sc_law_program (spF_len fun _ => rfl) fun cdv A outer s H vs Q XE hr h => ?_
  obtain ⟨⟨r0, p⟩, W, e, r, g, hp, k⟩ := h
  dsimp only at hp k r
  refine ⟨_, (pss_cons (ps_par (i := 4) (j := 5) (by rfl) sc_law_program.nd rfl rfl (by decide) rfl rfl (pa_cons (pe_op op_add pe_int (pe_call G_law_taken (hr.mono (by decide)) (by rfl) D_law_taken.mg D_law_taken.kp D_law_taken.b .nil pass0 (pa_cons (pv 0) (pa_cons (pv 3) pa_nil)))) (pa_cons (pe_lst pa_nil) pa_nil)) (by rfl))
      (pss_cons (ps_for PassesOwn.never rfl (pi_range1 (by rfl) TT.b_range (pa_cons (pv 4) pa_nil)) (pg_name (i := 6) sc_law_program.nd rfl (Or.inl rfl))
      (pss_cons (ps_set (i := 7) sc_law_program.nd rfl (Or.inl rfl) (pe_call G_law_taken (hr.mono (by decide)) (by rfl) D_law_taken.mg D_law_taken.kp D_law_taken.b .nil pass0 (pa_cons (pv 0) (pa_cons pe_int pa_nil))))
      (pss_one (ps_if (pt_cmpR op_lt (pv 7) pe_int (nomark _))
      (pss_one (ps_expr (pe_bm PySem.F.plainAttrs_list PySem.F.slot_list_append PySem.F.type_list_append mt_append (pv 5) (pa_cons (pe_tup (pa_cons (pe_ix (ixL K) (pe_lst (pa_cons pe_str (pa_cons pe_str (pa_cons pe_str (pa_cons pe_str (pa_cons pe_str (pa_cons pe_str pa_nil))))))) (pv 7) (fun _ _ => rfl)) (pa_cons (pe_call G_law_taken (hr.mono (by decide)) (by rfl) D_law_taken.mg D_law_taken.kp D_law_taken.b .nil pass0 (pa_cons (pv 0) (pa_cons (pv 2) pa_nil))) pa_nil))) pa_nil))))
      (pss_one (ps_if (pt_cmpR op_lt (pv 7) pe_int (nomark _))
      (pss_one (ps_expr (pe_bm PySem.F.plainAttrs_list PySem.F.slot_list_append PySem.F.type_list_append mt_append (pv 5) (pa_cons (pe_tup (pa_cons (pe_ix (ixL K) (pe_lst (pa_cons pe_str (pa_cons pe_str pa_nil))) (pe_op op_sub (pv 7) pe_int) (fun _ _ => rfl)) (pa_cons (pe_call G_law_taken (hr.mono (by decide)) (by rfl) D_law_taken.mg D_law_taken.kp D_law_taken.b .nil pass0 (pa_cons (pv 0) (pa_cons (pe_op op_add (pv 4) pe_int) pa_nil))) pa_nil))) pa_nil))))
      (pss_cons (ps_set (i := 8) sc_law_program.nd rfl (Or.inl rfl) (pe_lst (pa_cons (pe_tup (pa_cons pe_str pa_nil)) (pa_cons (pe_tup (pa_cons pe_str pa_nil)) (pa_cons (pe_tup (pa_cons pe_str pa_nil)) (pa_cons (pe_tup (pa_cons pe_str pa_nil)) (pa_cons (pe_tup (pa_cons pe_str pa_nil)) pa_nil)))))))
      (pss_one (ps_expr (pe_bm PySem.F.plainAttrs_list PySem.F.slot_list_append PySem.F.type_list_append mt_append (pv 5) (pa_cons (pe_call G_law_pick (hr.mono (by decide)) (by rfl) D_law_pick.mg D_law_pick.kp D_law_pick.b .nil pass0 (pa_cons (pv 0) (pa_cons (pe_op op_cat (pv 8) (pe_lst (pa_cons (pe_tup (pa_cons pe_str (pa_cons (pe_call G_law_taken (hr.mono (by decide)) (by rfl) D_law_taken.mg D_law_taken.kp D_law_taken.b .nil pass0 (pa_cons (pv 0) (pa_cons (pv 1) pa_nil))) pa_nil))) pa_nil))) pa_nil))) pa_nil)))))))))))
      (pss_one (ps_ret (pe_callTy (tupK K) (by rfl) TT.b_tuple (by decide +kernel) (pa_cons (pv 5) pa_nil)))))), ?_⟩
  have pb := hp.pos
  have s0 := ss_start (N := ["_law_row_here", "_law_prime", "_law_values", "_law_most", "_law_size", "_law_found", "_law_turn", "_law_way", "_law_shown"]) e r g
  refine s_parO (A := fun d => ∃ m : Nat, d = .int (m : Int) ∧ 1 ≤ m ∧ m ≤ 7) (ee_op e_int (fun _ _ => e_call (r0, 7) (a_2 (e_var rfl) (e_var rfl)) ⟨by show (0 : Int) < 7; omega, by show (7 : Int) < _; omega⟩) fun a b ha hb => ?_) s0 fun d v q W1 H1 hd z1 s1 o1 => ?_
  · obtain ⟨n, rfl, b1, b2⟩ := hb
    subst ha
    have b3 : n < 7 := b2
    exact fun W x y W1 H1 e1 e2 rx ry Q q => o_add W x y W1 H1 e1 e2 rx ry Q fun d v W' H2 hd => q d v W' H2 ⟨(1 + n).toNat, by rw [hd]; congr 1; omega, by omega, by omega⟩
  obtain ⟨m, rfl, hm1, hm7⟩ := hd
  refine s_for (io_rngN (m := m) (a_1 (e_var rfl)) (by omega)) s1 fun n el W2 H2 hz z2 s2 => ?_
  obtain ⟨hn, rfl⟩ := hz
  subst n
  refine ⟨fun i σ' W' H' => ∃ (l : List Ins) (a b c : Sl), l.length = i ∧ (∀ x ∈ l, InsOk m x) ∧ Ex K T W2 W' ∧ SS K T P W W H W' H' [.d r0.d, .d (.int p), .d (.int 3), .d (.int 7), .d (.int (m : Int)), .own q, a, b, c] σ' ∧ Ow K W' H H' q (l.map Ins.d), ?_, ?_, ?_, ?_⟩
  · exact ⟨[], _, _, _, rfl, (fun x h => (by cases h)), Ex.refl _, s2, o1.step z2.vv⟩
  · rintro i σ' W' H' _ ⟨l, a, b, c, _, _, e1, ss, _⟩
    exact ⟨e1, _, ss⟩
  · rintro i σ' W' H' hi ⟨l, a, b, c, hl, hall, e1, ss, ow⟩
    refine ⟨_, _, [6], ss, tg_name, fun σ2 W5 H5 z5 s5 => ?_⟩
    have o5 := ow.step z5.vv
    refine s_asg (e_call (r0, 12) (a_2 (e_var rfl) e_int) ⟨by show (0 : Int) < 12; omega, by show (12 : Int) < _; omega⟩) s5 fun d v W6 H6 hd z6 s6 => ?_
    obtain ⟨n, rfl, n0, n12⟩ := hd
    have n12 : n < 12 := n12
    have o6 := o5.step z6.vv
    have ex6 := e1.trans (z5.up.trans z6.up)
    have lz : (l.map Ins.d).length < 100000 := by rw [len_map]; omega
    have rd : ∀ d, (∃ x : Ins, d = x.d ∧ InsOk m x) → rowD (l.map Ins.d ++ [d]) = false := by
      rintro d ⟨x, rfl, _⟩
      have z : l.map Ins.d ++ [x.d] = (l ++ [x]).map Ins.d := by rw [List.map_append]; rfl
      rw [z]
      exact ins_not _
    have fin : ∀ d W' H' σ' (c : Sl), (∃ x : Ins, d = x.d ∧ InsOk m x) → Ex K T W2 W' → SS K T P W W H W' H' [.d r0.d, .d (.int p), .d (.int 3), .d (.int 7), .d (.int (m : Int)), .own q, .d (.int (i : Int)), .d (.int n), c] σ' → Ow K W' H H' q (l.map Ins.d ++ [d]) →
        ∃ W6, ∃ (l : List Ins) (a b c : Sl), l.length = i + 1 ∧ (∀ x ∈ l, InsOk m x) ∧ Ex K T W2 W6 ∧ SS K T P W W H W6 H' [.d r0.d, .d (.int p), .d (.int 3), .d (.int 7), .d (.int (m : Int)), .own q, a, b, c] σ' ∧ Ow K W6 H H' q (l.map Ins.d) := by
      rintro d W' H' σ' c ⟨x, rfl, hx⟩ ex ss ow
      refine ⟨W', l ++ [x], _, _, _, by rw [List.length_append, hl]; rfl, fun y hy => ?_, ex, ss, by rw [List.map_append]; exact ow⟩
      rcases List.mem_append.mp hy with hy | hy
      · exact hall y hy
      · rw [List.mem_singleton.mp hy]
        exact hx
    have mk : ∀ (o : O1) (v : Int), 0 ≤ v → v ≤ o.top m → ∃ x : Ins, D.tup [.str o.nm, .int v] = x.d ∧ InsOk m x := fun o v h1 h2 => ⟨.u o v, rfl, h1, h2⟩
    refine s_if1 (t_t (e_op (e_var rfl) e_int o_lt)) s6 (fun hb H9 e9 s9 => ?_) (fun hb H9 e9 s9 => ?_)
    · have hn := of_decide_eq_true hb
      refine s_app (n := 5) (A := fun d => ∃ x : Ins, d = x.d ∧ InsOk m x) rfl (o6.stay e9) ?_ s9 lz rd fun d W7 H7 hd z7 xs s7 o7 => fin d W7 _ _ _ hd (ex6.trans z7.up) s7 o7
      refine (ee_tup (aaN (A := fun d => ∃ o : O1, d = .str o.nm ∧ o.top m = 3) (ee_op (e_lst (a_cons e_str (a_cons e_str (a_cons e_str (a_3 e_str e_str e_str))))) (fun _ _ => e_var rfl) fun a b ha hb => ?_) (aaN (e_call (r0, 3) (a_2 (e_var rfl) (e_var rfl)) ⟨by show (0 : Int) < 3; omega, by show (3 : Int) < _; omega⟩) a_nil)) fun ds hd => ?_).imp fun d hd => ?_
      · subst ha
        subst hb
        have go : ∀ (o : O1), o.top m = 3 → atI [D.str "get", .str "plus", .str "minus", .str "add", .str "take", .str "add"] n = some (.str o.nm) → Ro K T (rIxL K) (.lst [D.str "get", .str "plus", .str "minus", .str "add", .str "take", .str "add"]) (.int n) (fun d => ∃ o : O1, d = .str o.nm ∧ o.top m = 3) := fun o ho ha W x y W1 H1 e1 e2 rx ry Q q => o_ixL ha W x y W1 H1 e1 e2 rx ry Q fun d v W' H2 hd => q d v W' H2 ⟨o, hd, ho⟩
        rcases (by omega : n = 0 ∨ n = 1 ∨ n = 2 ∨ n = 3 ∨ n = 4 ∨ n = 5) with rfl | rfl | rfl | rfl | rfl | rfl
        · exact go .get rfl rfl
        · exact go .plus rfl rfl
        · exact go .minus rfl rfl
        · exact go .add rfl rfl
        · exact go .take rfl rfl
        · exact go .add rfl rfl
      · obtain ⟨_, _, rfl, _, _, _, rfl, _, rfl⟩ := hd
        show 2 ≤ 100000
        omega
      · obtain ⟨ds, rfl, _, _, rfl, ⟨o, rfl, ho⟩, _, _, rfl, ⟨v, rfl, v0, v1⟩, rfl⟩ := hd
        have v2 : v < 3 := v1
        exact mk o v v0 (by rw [ho]; omega)
    · have hn : 6 ≤ n := by
        have q := of_decide_eq_false hb
        omega
      refine s_if1 (t_t (e_op (e_var rfl) e_int o_lt)) s9 (fun hb H10 e10 s10 => ?_) (fun hb H10 e10 s10 => ?_)
      · have hn2 := of_decide_eq_true hb
        refine s_app (n := 5) (A := fun d => ∃ x : Ins, d = x.d ∧ InsOk m x) rfl ((o6.stay e9).stay e10) ?_ s10 lz rd fun d W7 H7 hd z7 xs s7 o7 => fin d W7 _ _ _ hd (ex6.trans z7.up) s7 o7
        refine (ee_tup (aaN (A := fun d => ∃ o : O1, d = .str o.nm ∧ o.top m = (m : Int)) (ee_op (e_lst (a_2 e_str e_str)) (fun _ _ => e_op (e_var rfl) e_int o_sub) fun a b ha hb => ?_) (aaN (e_call (r0, (m : Int) + 1) (a_2 (e_var rfl) (e_op (e_var rfl) e_int o_add)) ⟨by show (0 : Int) < _; omega, by show (_ : Int) < _; omega⟩) a_nil)) fun ds hd => ?_).imp fun d hd => ?_
        · subst ha
          subst hb
          have go : ∀ (o : O1), o.top m = (m : Int) → atI [D.str "zero", .str "go"] (n - 6) = some (.str o.nm) → Ro K T (rIxL K) (.lst [D.str "zero", .str "go"]) (.int (n - 6)) (fun d => ∃ o : O1, d = .str o.nm ∧ o.top m = (m : Int)) := fun o ho ha W x y W1 H1 e1 e2 rx ry Q q => o_ixL ha W x y W1 H1 e1 e2 rx ry Q fun d v W' H2 hd => q d v W' H2 ⟨o, hd, ho⟩
          rcases (by omega : n = 6 ∨ n = 7) with rfl | rfl
          · exact go .zero rfl rfl
          · exact go .go rfl rfl
        · obtain ⟨_, _, rfl, _, _, _, rfl, _, rfl⟩ := hd
          show 2 ≤ 100000
          omega
        · obtain ⟨ds, rfl, _, _, rfl, ⟨o, rfl, ho⟩, _, _, rfl, ⟨v, rfl, v0, v1⟩, rfl⟩ := hd
          have v2 : v < (m : Int) + 1 := v1
          exact mk o v v0 (by rw [ho]; omega)
      · refine s_asg1 (d := .lst [(Ins.z .say).d, (Ins.z .say).d, (Ins.z .ask).d, (Ins.z .ask).d, (Ins.z .stop).d]) (e_lst (a_cons (e_tup (a_1 e_str)) (a_cons (e_tup (a_1 e_str)) (a_3 (e_tup (a_1 e_str)) (e_tup (a_1 e_str)) (e_tup (a_1 e_str)))))) s10 fun v W7 H7 z7 s7 => ?_
        refine s_app (n := 5) (A := fun d => ∃ x : Ins, d = x.d ∧ InsOk m x) rfl (((o6.stay e9).stay e10).step z7.vv) ?_ s7 lz rd fun d W8 H8 hd z8 xs s8 o8 => fin d W8 _ _ _ hd (ex6.trans (z7.up.trans z8.up)) s8 o8
        refine ee_call (aaN (A := fun d => d = r0.d) (e_var rfl) (aaN (A := fun d => ∃ v : Int, (0 ≤ v ∧ v < p) ∧ d = .lst ([(Ins.z .say).d, (Ins.z .say).d, (Ins.z .ask).d, (Ins.z .ask).d, (Ins.z .stop).d] ++ [(Ins.u .put v).d])) (ee_op (e_var rfl) (fun _ _ => ee_lst (aaN (A := fun d => ∃ v : Int, (0 ≤ v ∧ v < p) ∧ d = (Ins.u .put v).d) ((ee_tup (aaN (e_str (s := "put")) (aaN (e_call (r0, p) (a_2 (e_var rfl) (e_var rfl)) ⟨by show (0 : Int) < p; omega, by show p < _; omega⟩) a_nil)) fun ds hd => ?_).imp fun d hd => ?_) a_nil) (fun ds hd => ?_) fun ds hd => ?_) fun a b ha hb => ?_) a_nil)) fun ds hd => ?_
        · obtain ⟨_, _, rfl, _, _, _, rfl, _, rfl⟩ := hd
          show 2 ≤ 100000
          omega
        · obtain ⟨ds, rfl, _, _, rfl, rfl, _, _, rfl, ⟨v, rfl, v0, v1⟩, rfl⟩ := hd
          exact ⟨v, ⟨v0, v1⟩, rfl⟩
        · obtain ⟨_, _, rfl, _, rfl⟩ := hd
          show 1 ≤ 100000
          omega
        · obtain ⟨_, _, rfl, ⟨_, _, rfl⟩, rfl⟩ := hd
          rfl
        · subst ha
          obtain ⟨_, rfl, _, _, rfl, ⟨v, hv, rfl⟩, rfl⟩ := hb
          exact fun W x y W1 H1 e1 e2 rx ry Q q => o_cat (by show 5 + 1 ≤ 100000; omega) rfl W x y W1 H1 e1 e2 rx ry Q fun d u W' H2 hd => q d u W' H2 ⟨v, hv, hd⟩
        · obtain ⟨_, _, rfl, rfl, _, _, rfl, ⟨v, hv, rfl⟩, rfl⟩ := hd
          refine ⟨(r0, _), rfl, ⟨by show 0 < 6; omega, by show 6 < 100000; omega⟩, fun d hd => ?_⟩
          have hd2 : d ∈ [(Ins.z .say).d, (Ins.z .say).d, (Ins.z .ask).d, (Ins.z .ask).d, (Ins.z .stop).d, (Ins.u .put v).d] := hd
          simp only [List.mem_cons, List.not_mem_nil, or_false] at hd2
          rcases hd2 with rfl | rfl | rfl | rfl | rfl | rfl
          · exact ⟨_, rfl, trivial⟩
          · exact ⟨_, rfl, trivial⟩
          · exact ⟨_, rfl, trivial⟩
          · exact ⟨_, rfl, trivial⟩
          · exact ⟨_, rfl, trivial⟩
          · exact ⟨_, rfl, hv.1, by show v ≤ 6; omega⟩
  · rintro σ' W' H' ⟨l, a, b, c, hl, hall, e1, ss, ow⟩
    obtain ⟨W7, s7, e7, _⟩ := ss.release (n := 5) ow rfl
    dsimp only
    refine s_ret1 (d := progT l) (e_cb (a_1 (e_var rfl)) c_tupL) s7 e fun v W8 H8 z8 rv => k _ _ _ _ ⟨l, rfl, by omega, by omega, by rw [hl]; exact hall⟩ z8 rv
end K11
/-! K11Y: the program bent to the machine, with waits. -/
namespace K11
open PySem PySem.Spec PyProof.Rows
open L2
section
variable {K : PySem.W.Frag} {T : List (Addr × Str)} {P : List Addr} {B : Hp} {δ δ' : List Sl} {te ta tc : TE} {A : D → Prop} {wi : TI} {a b c d : D} {W W0 H H1 H2 : Hp} {σ : L2.St} {t : TT} {tu tw : TS} {D0 : Ends}
/-- own.append(v), v known without looking further -/
theorem s_appR {n : Nat} {p : Addr} {ds : List D} {v : V} (hn : δ[n]? = some (.own p)) (o : Ow K W H H1 p ds) (h : RV te σ H1 v) (rv : ∀ W, Rp K W d v) (s : SS K T P B W0 H W H1 δ σ) (hz : ds.length < 100000) (hr : rowD (ds ++ [d]) = false)
    (k : ∀ xs, SS K T P B W0 H W (upd H1 p (.lst xs)) δ σ → Ow K W H (upd H1 p (.lst xs)) p (ds ++ [d]) → D0.nx σ (upd H1 p (.lst xs))) :
    tDrop (tBM K "list" rAppend (tVar n) (tCons te tNil)) D0 σ H1 := by
  obtain ⟨x, hx, rfl⟩ := rps_get s.r.s hn
  obtain ⟨hw, hh, xs, h1, rl, g⟩ := id o
  refine ⟨_, hx, Or.inl ⟨rfl, xs, SqL.of h1⟩, h _ ?_⟩
  have ra := rpl_app (m := [d]) (ys := [v]) rl ⟨rv W, True.intro⟩
  have nr := rowish_of ra hr
  exact ⟨p, xs, v, rfl, rfl, h1, by rw [rpl_len rl]; exact Nat.lt_of_lt_of_le hz (by decide), k _ ⟨s.y.mut hw hh h1 g, s.r⟩ ⟨hw, hh, _, upd_same, ra, nr⟩⟩
/-- own = own + e -/
theorem s_catO {n : Nat} {q : Addr} {fl : List D} {A : List D → Prop} (hn : δ[n]? = some (.own q)) (o : Ow K W H H1 q fl) (h : E K T P B te δ (fun d => ∃ m, d = .lst m ∧ A m)) (s : SS K T P B W0 H W H1 δ σ) (hz : ∀ m, A m → fl.length + m.length ≤ 100000) (hr : ∀ m, A m → rowD (fl ++ m) = false)
    (k : ∀ m p W' H2, A m → Ex K T W W' → SS K T P B W0 H W' H2 (δ.set n (.own p)) (σ.set n (some (.ref p))) → Ow K W' H H2 p (fl ++ m) → (∀ q' es, Ow K W H H1 q' es → q' ≠ p ∧ Ow K W' H H2 q' es) → D0.nx (σ.set n (some (.ref p))) H2) :
    tAsg (tOp rCat (tVar n) te) (gName n) D0 σ H1 := by
  obtain ⟨x, hx, rfl⟩ := rps_get s.r.s hn
  refine ⟨_, hx, h σ W s.r H1 s.y.to _ fun d v W' H2 hd z rv => ?_⟩
  obtain ⟨m, rfl, hA⟩ := hd
  obtain ⟨a, ys, rfl, ha, ga, rm⟩ := rv
  obtain ⟨hw, hh, xs, h1, rl, g⟩ := o.step z.vv
  have ra := rpl_app rl rm
  have nr := rowish_of ra (hr m hA)
  have hzz := hz m hA
  refine ⟨q, a, xs, ys, rfl, rfl, h1, z.to.keep _ _ ha ga, Nat.le_trans (by rw [rpl_len rl, rpl_len rm]; exact hzz) (by decide : 100000 ≤ sizeLine), fun p hp => ?_⟩
  have s2 := s.step z.vv
  obtain ⟨y, n1, n2⟩ := s2.y.own (o := .lst (xs ++ ys)) hp
  refine k m p W' _ hA z.up ⟨y, s2.r.setO⟩ ⟨n1, n2, _, upd_same, ra, nr⟩ fun q' es o' => ?_
  have o2 := o'.step z.vv
  have ne : q' ≠ p := fun e => by
    obtain ⟨_, _, zs, hz, _⟩ := o2
    rw [e, hp] at hz
    cases hz
  exact ⟨ne, o2.other ne⟩
theorem rd_lenO {p : Addr} {ds : List D} {n : Nat} (s : SS K T P B W0 H W H1 δ σ) (hn : δ[n]? = some (.own p)) (o : Ow K W H H1 p ds) : RV (tCB (fun xs H Q => ∃ x n, xs = [x] ∧ LenV K x H n ∧ Q (.int n) H) (tCons (tVar n) tNil)) σ H1 (.int (ds.length : Int)) := by
  obtain ⟨x, hx, rfl⟩ := rps_get s.r.s hn
  obtain ⟨_, _, xs, h1, rl, _⟩ := o
  have z := rd_len (K := K) (rd_var hx) (SqL.of h1)
  rw [rpl_len rl] at z
  exact z
end
theorem rowD_nats (l : List Nat) : rowD (l.map fun (n : Nat) => D.int (n : Int)) = false := rowD_ints fun d hd => by
  obtain ⟨_, _, rfl⟩ := List.mem_map.mp hd
  rfl
/-- a word of the instruction -/
def Ins.w : Ins → Str
  | .z o => o.nm
  | .u o _ => o.nm
def Ins.n : Ins → Int
  | .z _ => 0
  | .u _ n => n
theorem ins_0 (i : Ins) : ∃ l, i.d = .tup l ∧ atI l 0 = some (.str i.w) := by
  cases i with
  | z o => exact ⟨_, rfl, rfl⟩
  | u o n => exact ⟨_, rfl, rfl⟩
section
variable {K : PySem.W.Frag} {T : List (Addr × Str)} {P : List Addr} {B : Hp} {δ : List Sl} {te : TE}
theorem e_ins0 {i : Ins} (h : E1 K T P B te δ i.d) : E1 K T P B (tOp (rIxT K) te (tC (.int 0))) δ (.str i.w) := by
  obtain ⟨l, e, h0⟩ := ins_0 i
  rw [e] at h
  exact e_op h e_int (o_ixT h0)
theorem e_ins1 {o : O1} {n : Int} (h : E1 K T P B te δ (Ins.u o n).d) : E1 K T P B (tOp (rIxT K) te (tC (.int 1))) δ (.int n) := e_op (a := .tup [.str o.nm, .int n]) h e_int (o_ixT rfl)
end
/-- is the word among these? -/
def amS (x : Str) (l : List Str) : Bool := inV (.str x) (l.map V.str)
theorem scs_str : ∀ l : List Str, scs (l.map D.str) = some (l.map V.str)
  | [] => rfl
  | x :: l => by
    show (match sc (D.str x), scs (l.map D.str) with | some v, some vs => some (v :: vs) | _, _ => none) = _
    rw [scs_str l]
    rfl
theorem flat_str : ∀ l : List Str, (l.map V.str).all flatV = true
  | [] => rfl
  | x :: l => by
    rw [List.map_cons, List.all_cons, flat_str l]
    rfl
theorem o_inS {K : PySem.W.Frag} {T : List (Addr × Str)} {x : Str} (l : List Str) : Ro K T (rIn K false) (.str x) (.lst (l.map .str)) (fun d => d = .bl (amS x l)) := o_inL rfl (scs_str l) rfl (flat_str l)
theorem o_inST {K : PySem.W.Frag} {T : List (Addr × Str)} {x : Str} (l : List Str) : Ro K T (rIn K false) (.str x) (.tup (l.map .str)) (fun d => d = .bl (amS x l)) := o_inT rfl (scs_str l) rfl (flat_str l)
def isSee : O1 → Bool
  | .get => true
  | .plus => true
  | .minus => true
  | _ => false
def isWr : O1 → Bool
  | .add => true
  | .take => true
  | _ => false
def isJmp : O1 → Bool
  | .zero => true
  | .go => true
  | _ => false
theorem am_see1 (o : O1) : amS o.nm ["get", "plus", "minus"] = isSee o := by cases o <;> decide +kernel
theorem am_see0 (o : O0) : amS o.nm ["get", "plus", "minus"] = false := by cases o <;> decide +kernel
theorem am_wr1 (o : O1) : amS o.nm ["add", "take"] = isWr o := by cases o <;> decide +kernel
theorem am_wr0 (o : O0) : amS o.nm ["add", "take"] = false := by cases o <;> decide +kernel
theorem am_jmp1 (o : O1) : amS o.nm ["zero", "go"] = isJmp o := by cases o <;> decide +kernel
theorem am_jmp0 (o : O0) : amS o.nm ["zero", "go"] = false := by cases o <;> decide +kernel
def Ins.see : Ins → Bool
  | .z _ => false
  | .u o _ => isSee o
def Ins.wri : Ins → Bool
  | .z _ => false
  | .u o _ => isWr o
def Ins.jmp : Ins → Bool
  | .z _ => false
  | .u o _ => isJmp o
theorem am_see (i : Ins) : amS i.w ["get", "plus", "minus"] = i.see := by
  cases i with
  | z o => exact am_see0 o
  | u o n => exact am_see1 o
theorem am_wr (i : Ins) : amS i.w ["add", "take"] = i.wri := by
  cases i with
  | z o => exact am_wr0 o
  | u o n => exact am_wr1 o
theorem am_jmp (i : Ins) : amS i.w ["zero", "go"] = i.jmp := by
  cases i with
  | z o => exact am_jmp0 o
  | u o n => exact am_jmp1 o
theorem nats_set {l : List Nat} {n : Nat} : (l.map fun (n : Nat) => D.int (n : Int)) ++ [.int (n : Int)] = (l ++ [n]).map fun (n : Nat) => D.int (n : Int) := by
  rw [List.map_append]
  rfl
theorem ins_app {l : List Ins} {i : Ins} : l.map Ins.d ++ [i.d] = (l ++ [i]).map Ins.d := by
  rw [List.map_append]
  rfl
theorem getD_ins {l : List Ins} {i : Nat} (h : i < l.length) : (l.map Ins.d).getD i .non = (l[i]).d := by
  rw [List.getD_eq_getElem?_getD, List.getElem?_map, List.getElem?_eq_getElem h]
  rfl
variable {PP : Program} {w : World} {K : PySem.W.Frag} {T : List (Addr × Str)} {P : List Addr} {mg : Str → Option Value} {base : Heap}
theorem sc_law_bent_kept : FnScope ["_law_row_here", "_law_machine_here", "_law_program_here", "_law_found", "_law_spots", "_law_one"] ["_law_row_here", "_law_machine_here", "_law_program_here"] (defScope (topS 50)) := ⟨rfl, rfl, rfl, by decide +kernel, rfl, by decide +kernel, by decide +kernel⟩
def ProgOk (l : List Ins) : Prop := ∀ x ∈ l, InsOk l.length x
abbrev sp_kept (K : PySem.W.Frag) (T : List (Addr × Str)) (P : List Addr) : Sp := spF K T P (ι := Dw × Mac × List Ins) (fun i => [i.1.d, i.2.1.d, progT i.2.2]) (fun i => i.2.1.Ok ∧ 1 ≤ i.2.2.length ∧ i.2.2.length ≤ 7 ∧ ProgOk i.2.2) (fun i d => ∃ l : List Ins, d = progT l ∧ 1 ≤ l.length ∧ l.length ≤ 21 ∧ ProgOk l)
theorem ok_kept {f f1 f2 : Addr} {fd fd1 fd2 : FuncData} (TT : Tx K mg) (F : Dfn K mg "_law_bent_kept" 50 ["_law_row_here", "_law_machine_here", "_law_program_here"] f fd)
    (D_law_taken : Dfn K mg "_law_taken" 43 ["_law_row_here", "_law_many"] f1 fd1) (G_law_taken : FnOk PP w K mg base CX0 1 f1 fd1 ["_law_row_here", "_law_many"] (sp_taken K T P))
    (D_law_pick : Dfn K mg "_law_pick" 44 ["_law_row_here", "_law_things"] f2 fd2) (G_law_pick : FnOk PP w K mg base CX0 2 f2 fd2 ["_law_row_here", "_law_things"] (sp_pick K T P)) :
    FnOk PP w K mg base CX0 3 f fd ["_law_row_here", "_law_machine_here", "_law_program_here"] (sp_kept K T P) := by
  refine F.ok sc_law_bent_kept (spF_len fun _ => rfl) fun cdv A outer s H vs Q XE hr h => ?_
  obtain ⟨⟨r0, mc, pr⟩, W, e, r, g, ⟨mok, hp1, hp7, hpr⟩, k⟩ := h
  dsimp only at mok hp1 hp7 hpr k r
  refine ⟨_, (pss_cons (ps_asg (pe_tup (pa_cons (pe_lst pa_nil) (pa_cons (pe_lst pa_nil) pa_nil))) (pg_tup (by rfl) (pgs_cons (pg_name (i := 3) sc_law_bent_kept.nd rfl (Or.inl rfl)) (pgs_cons (pg_name (i := 4) sc_law_bent_kept.nd rfl (Or.inr rfl)) pgs_nil))))
      (pss_cons (ps_for PassesOwn.never rfl (piT K (pv 2)) (pg_name (i := 5) sc_law_bent_kept.nd rfl (Or.inl rfl))
      (pss_cons (ps_expr (pe_bm PySem.F.plainAttrs_list PySem.F.slot_list_append PySem.F.type_list_append mt_append (pv 4) (pa_cons (pe_callB (lenK K) (by rfl) TT.b_len (by decide +kernel) (pa_cons (pv 3) pa_nil)) pa_nil)))
      (pss_cons (ps_if (pt_cmpR (inK K) (pe_ix (ixT K) (pv 5) pe_int (fun _ _ => rfl)) (pe_lst (pa_cons pe_str (pa_cons pe_str (pa_cons pe_str pa_nil)))) (by rfl))
      (pss_one (ps_expr (pe_bm PySem.F.plainAttrs_list PySem.F.slot_list_append PySem.F.type_list_append mt_append (pv 3) (pa_cons (pe_tup (pa_cons (pe_ix (ixT K) (pv 5) pe_int (fun _ _ => rfl)) (pa_cons (pe_callB (call_min2 rfl) (by rfl) TT.b_min (by decide +kernel) (pa_cons (pe_ix (ixT K) (pv 5) pe_int (fun _ _ => rfl)) (pa_cons (pe_op op_sub (pe_callB (lenK K) (by rfl) TT.b_len (by decide +kernel) (pa_cons (pe_ix (ixT K) (pv 1) pe_int (fun _ _ => rfl)) pa_nil)) pe_int) pa_nil))) pa_nil))) pa_nil))))
      (pss_one (ps_if (pt_cmpR (inK K) (pe_ix (ixT K) (pv 5) pe_int (fun _ _ => rfl)) (pe_lst (pa_cons pe_str (pa_cons pe_str pa_nil))) (by rfl))
      (pss_one (ps_expr (pe_bm PySem.F.plainAttrs_list PySem.F.slot_list_append PySem.F.type_list_append mt_append (pv 3) (pa_cons (pe_tup (pa_cons (pe_ix (ixT K) (pv 5) pe_int (fun _ _ => rfl)) (pa_cons (pe_callB (call_min2 rfl) (by rfl) TT.b_min (by decide +kernel) (pa_cons (pe_ix (ixT K) (pv 5) pe_int (fun _ _ => rfl)) (pa_cons (pe_op op_sub (pe_callB (lenK K) (by rfl) TT.b_len (by decide +kernel) (pa_cons (pe_ix (ixT K) (pv 1) pe_int (fun _ _ => rfl)) pa_nil)) pe_int) pa_nil))) pa_nil))) pa_nil))))
      (pss_one (ps_expr (pe_bm PySem.F.plainAttrs_list PySem.F.slot_list_append PySem.F.type_list_append mt_append (pv 3) (pa_cons (pv 5) pa_nil)))))))
      (pss_cons (ps_set (i := 3) sc_law_bent_kept.nd rfl (Or.inl rfl) (pe_op op_cat (pv 3) (pe_op op_rep (pe_lst (pa_cons (pe_tup (pa_cons pe_str pa_nil)) pa_nil)) (pe_call G_law_taken (hr.mono (by decide)) (by rfl) D_law_taken.mg D_law_taken.kp D_law_taken.b .nil pass0 (pa_cons (pv 0) (pa_cons pe_int pa_nil))))))
      (pss_one (ps_if (pt_cmpR op_eq (pe_call G_law_taken (hr.mono (by decide)) (by rfl) D_law_taken.mg D_law_taken.kp D_law_taken.b .nil pass0 (pa_cons (pv 0) (pa_cons pe_int pa_nil))) pe_int (nomark _))
      (pss_one (ps_expr (pe_bm PySem.F.plainAttrs_list PySem.F.slot_list_append PySem.F.type_list_append mt_append (pv 3) (pa_cons (pe_call G_law_pick (hr.mono (by decide)) (by rfl) D_law_pick.mg D_law_pick.kp D_law_pick.b .nil pass0 (pa_cons (pv 0) (pa_cons (pe_lst (pa_cons (pe_tup (pa_cons pe_str pa_nil)) (pa_cons (pe_tup (pa_cons pe_str (pa_cons pe_int pa_nil))) (pa_cons (pe_tup (pa_cons pe_str (pa_cons pe_int pa_nil))) (pa_cons (pe_tup (pa_cons pe_str (pa_cons pe_int pa_nil))) (pa_cons (pe_tup (pa_cons pe_str pa_nil)) pa_nil)))))) pa_nil))) pa_nil))))
      pss_nil))))))
      (pss_cons (ps_expr (pe_bm PySem.F.plainAttrs_list PySem.F.slot_list_append PySem.F.type_list_append mt_append (pv 4) (pa_cons (pe_callB (lenK K) (by rfl) TT.b_len (by decide +kernel) (pa_cons (pv 3) pa_nil)) pa_nil)))
      (pss_one (ps_ret (pe_callTy (tupK K) (by rfl) TT.b_tuple (by decide +kernel) (pa_cons (pe_lc (g := gName 5) (own := [("_law_one", 5)]) (by rfl) sc_law_bent_kept.nd (piL K (pv 3)) (blkOk_by (own := [("_law_one", 5)]) (by rfl)) (fun _ _ _ _ _ => (pg_name (i := 5) sc_law_bent_kept.nd rfl (Or.inl rfl))) (fun _ _ _ _ _ => pts_nil) (fun _ _ _ _ _ => (pe_ifExp (pt_cmpR (inK K) (pe_ix (ixT K) (pv 5) pe_int (fun _ _ => rfl)) (pe_lst (pa_cons pe_str (pa_cons pe_str pa_nil))) (by rfl)) (pe_tup (pa_cons (pe_ix (ixT K) (pv 5) pe_int (fun _ _ => rfl)) (pa_cons (pe_ix (ixL K) (pv 4) (pe_ix (ixT K) (pv 5) pe_int (fun _ _ => rfl)) (fun _ _ => rfl)) pa_nil))) (pv 5)))) pa_nil))))))), ?_⟩
  have s0 := ss_start (N := ["_law_row_here", "_law_machine_here", "_law_program_here", "_law_found", "_law_spots", "_law_one"]) e r g
  refine s_own2 s0 fun q p H1 npq s1 oq op => ?_
  have lpr : (pr.map Ins.d).length = pr.length := len_map ..
  refine s_for (io_tup (e_var rfl)) s1 fun n el W2 H2 hz z2 s2 => ?_
  obtain ⟨hn, rfl⟩ := hz
  rw [lpr] at hn
  subst hn
  refine ⟨fun i σ' W' H' => ∃ (fl : List Ins) (sp : List Nat) (q p : Addr) (a : Sl), q ≠ p ∧ sp.length = i ∧ fl.length ≤ 3 * i ∧ i ≤ fl.length ∧ (∀ x ∈ sp, x ≤ fl.length) ∧ (∀ x ∈ fl, InsOk pr.length x) ∧ Ex K T W2 W' ∧ SS K T P W W H W' H' [.d r0.d, .d mc.d, .d (progT pr), .own q, .own p, a] σ' ∧ Ow K W' H H' q (fl.map Ins.d) ∧ Ow K W' H H' p (sp.map fun (n : Nat) => D.int (n : Int)), ?_, ?_, ?_, ?_⟩
  · exact ⟨[], [], q, p, _, npq, rfl, Nat.le_refl _, Nat.le_refl _, (fun x h => (by cases h)), (fun x h => (by cases h)), Ex.refl _, s2, oq.step z2.vv, op.step z2.vv⟩
  · rintro i σ' W' H' _ ⟨fl, sp, q, p, a, _, _, _, _, _, _, e1, ss, _, _⟩
    exact ⟨e1, _, ss⟩
  · rintro i σ' W' H' hi ⟨fl, sp, q, p, a, nqp, hsp, hfl, hfl2, hall, hins, e1, ss, owq, owp⟩
    have hio : InsOk pr.length pr[i] := hpr _ (List.getElem_mem hi)
    generalize hone : pr[i] = one at hio
    refine ⟨_, [.d r0.d, .d mc.d, .d (progT pr), .own q, .own p, .d one.d], [5], ss, Tg.cast (d' := one.d) (by rw [← hone]; exact getD_ins hi) tg_name, fun σ2 W5 H5 z5 s5 => ?_⟩
    have oq5 := owq.step z5.vv
    have op5 := owp.step z5.vv
    refine s_appR (n := 4) (d := .int (fl.length : Int)) rfl op5 ((len_map Ins.d fl) ▸ rd_lenO s5 rfl oq5) (fun W => rfl) s5 (by rw [len_map]; omega) (by rw [nats_set]; exact rowD_nats _) fun xs s6 op6 => ?_
    rw [nats_set] at op6
    have oq6 := oq5.other (o := .lst xs) nqp
    dsimp only
    have ex6 := e1.trans z5.up
    have lz : (fl.map Ins.d).length < 100000 := by rw [len_map]; omega
    have rd : ∀ d, (∃ x : Ins, d = x.d ∧ InsOk pr.length x) → rowD (fl.map Ins.d ++ [d]) = false := by
      rintro d ⟨x, rfl, _⟩
      rw [ins_app]
      exact ins_not _
    have hwr := mok.wr
    have hsi := mok.si
    refine s_if1 (t_t (e_op (e_ins0 (e_var rfl)) (e_lst (a_3 e_str e_str e_str)) (o_inS ["get", "plus", "minus"]))) s6
      (fun hb H9 e9 s9 => s_app (n := 3) (A := fun d => ∃ x : Ins, d = x.d ∧ InsOk pr.length x) rfl (oq6.stay e9) ?e1 s9 lz rd fun d W7 H7 hd z7 xs7 s7 o7 => ?g1)
      (fun hb2 H8 e8 s8 => s_if1 (t_t (e_op (e_ins0 (e_var rfl)) (e_lst (a_2 e_str e_str)) (o_inS ["add", "take"]))) s8
        (fun hb H9 e9 s9 => s_app (n := 3) (A := fun d => ∃ x : Ins, d = x.d ∧ InsOk pr.length x) rfl ((oq6.stay e8).stay e9) ?e2 s9 lz rd fun d W7 H7 hd z7 xs7 s7 o7 => ?g2)
        (fun hb H9 e9 s9 => s_app (n := 3) (A := fun d => ∃ x : Ins, d = x.d ∧ InsOk pr.length x) rfl ((oq6.stay e8).stay e9) ?e3 s9 lz rd fun d W7 H7 hd z7 xs7 s7 o7 => ?g3))
    case e1 =>
      rw [am_see] at hb
      cases one with
      | z o => cases hb
      | u o v =>
        refine (ee_tup (aaN (e_ins0 (e_var rfl)) (aaN (e_cb (a_2 (e_ins1 (e_var rfl)) (e_op (e_lenT (l := mc.si.map rowT) (e_op (e_var rfl) e_int (o_ixT rfl))) e_int o_sub)) c_min2) a_nil)) fun ds hd => ?_).imp fun d hd => ?_
        · obtain ⟨_, _, rfl, _, _, _, rfl, _, rfl⟩ := hd
          show 2 ≤ 100000
          omega
        · obtain ⟨ds, rfl, _, _, rfl, rfl, _, _, rfl, rfl, rfl⟩ := hd
          have ht : o.top pr.length = 3 := by cases o <;> first | rfl | cases hb
          obtain ⟨h1, h2⟩ := hio
          rw [ht] at h2
          refine ⟨.u o _, rfl, ?_, ?_⟩
          · rw [len_map]
            have q1 := hsi.lo
            split <;> omega
          · rw [len_map, ht]
            have q1 := hsi.hi
            split <;> omega
    case e2 =>
      rw [am_wr] at hb
      cases one with
      | z o => cases hb
      | u o v =>
        refine (ee_tup (aaN (e_ins0 (e_var rfl)) (aaN (e_cb (a_2 (e_ins1 (e_var rfl)) (e_op (e_lenT (l := mc.wr.map rowT) (e_op (e_var rfl) e_int (o_ixT rfl))) e_int o_sub)) c_min2) a_nil)) fun ds hd => ?_).imp fun d hd => ?_
        · obtain ⟨_, _, rfl, _, _, _, rfl, _, rfl⟩ := hd
          show 2 ≤ 100000
          omega
        · obtain ⟨ds, rfl, _, _, rfl, rfl, _, _, rfl, rfl, rfl⟩ := hd
          have ht : o.top pr.length = 3 := by cases o <;> first | rfl | cases hb
          obtain ⟨h1, h2⟩ := hio
          rw [ht] at h2
          refine ⟨.u o _, rfl, ?_, ?_⟩
          · rw [len_map]
            have q1 := hwr.lo
            split <;> omega
          · rw [len_map, ht]
            have q1 := hwr.hi
            split <;> omega
    case e3 => exact (e_var rfl).imp fun d hd => ⟨one, hd, hio⟩
    case' g1 => have op8 := ((op6.stay e9).step z7.vv).other (o := .lst xs7) nqp.symm
    case' g2 => have op8 := (((op6.stay e8).stay e9).step z7.vv).other (o := .lst xs7) nqp.symm
    case' g3 => have op8 := (((op6.stay e8).stay e9).step z7.vv).other (o := .lst xs7) nqp.symm
    all_goals
      obtain ⟨x, rfl, hx⟩ := hd
      rw [ins_app] at o7
      dsimp only
      refine s_catO (n := 3) (A := fun m => ∃ n : Nat, n ≤ 1 ∧ m = (List.replicate n (Ins.z .wait)).map Ins.d) rfl o7 ?_ s7 (fun m hm => ?_) (fun m hm => ?_) fun m q2 W10 H10 hm e10 s10 o10 oth => ?_
      · refine ee_op (e_lst (a_1 (e_tup (a_1 (e_str (s := "wait")))))) (fun _ _ => e_call (r0, 2) (a_2 (e_var rfl) e_int) ⟨by show (0 : Int) < 2; omega, by show (2 : Int) < _; omega⟩) fun a b ha hb => ?_
        obtain ⟨n, rfl, b1, b2⟩ := hb
        subst ha
        have b3 : n < 2 := b2
        rcases (by omega : n = 0 ∨ n = 1) with rfl | rfl
        · exact fun W x y W1 H1 e1 e2 rx ry Q q => o_rep (n := 0) (by show 1 * 0 ≤ 100000; omega) (by omega) rfl W x y W1 H1 e1 e2 rx ry Q fun d v W' H2 hd => q d v W' H2 ⟨_, hd, 0, by omega, rfl⟩
        · exact fun W x y W1 H1 e1 e2 rx ry Q q => o_rep (n := 1) (by show 1 * 1 ≤ 100000; omega) (by omega) rfl W x y W1 H1 e1 e2 rx ry Q fun d v W' H2 hd => q d v W' H2 ⟨_, hd, 1, by omega, rfl⟩
      · obtain ⟨n, hn1, rfl⟩ := hm
        rw [len_map, len_map, List.length_append, List.length_replicate]
        show fl.length + 1 + n ≤ 100000
        omega
      · obtain ⟨n, hn1, rfl⟩ := hm
        rw [← List.map_append]
        exact ins_not _
      obtain ⟨n, hn1, rfl⟩ := hm
      rw [← List.map_append] at o10
      obtain ⟨nq2, op10⟩ := oth p _ op8
      have ex10 := ex6.trans (z7.up.trans e10)
      dsimp only
      have hl10 : (fl ++ [x] ++ List.replicate n (Ins.z .wait)).length = fl.length + 1 + n := by
        rw [List.length_append, List.length_append, List.length_replicate]
        rfl
      have hi10 : ∀ y ∈ fl ++ [x] ++ List.replicate n (Ins.z .wait), InsOk pr.length y := fun y hy => by
        rcases List.mem_append.mp hy with hy | hy
        · rcases List.mem_append.mp hy with hy | hy
          · exact hins y hy
          · rw [List.mem_singleton.mp hy]
            exact hx
        · rw [List.eq_of_mem_replicate hy]
          trivial
      generalize fl ++ [x] ++ List.replicate n (Ins.z .wait) = fl3 at o10 hl10 hi10
      have hs3 : ∀ y ∈ sp ++ [fl.length], y ≤ fl3.length := fun y hy => by
        rcases List.mem_append.mp hy with hy | hy
        · have := hall y hy
          omega
        · rw [List.mem_singleton.mp hy]
          omega
      refine s_if (C := fun _ => True) (t_test (ee_op (e_call (r0, 9) (a_2 (e_var rfl) e_int) ⟨by show (0 : Int) < 9; omega, by show (9 : Int) < _; omega⟩) (fun a _ => e_int) fun a b ha hb => ?_)) s10.r s10.y.to s10 (fun _ H11 e11 s11 => ?_) (fun _ H11 e11 s11 => ?_)
      · obtain ⟨n, rfl, _⟩ := ha
        subst hb
        exact fun W x y W1 H1 e1 e2 rx ry Q q => o_eqI W x y W1 H1 e1 e2 rx ry Q fun d v W' H2 hd => q d v W' H2 ⟨_, hd, trivial⟩
      · refine s_app (n := 3) (A := fun d => ∃ x : Ins, d = x.d ∧ InsOk pr.length x) rfl (o10.stay e11) ?_ s11 (by rw [len_map]; omega) (fun d hd => ?_) fun d W12 H12 hd z12 xs12 s12 o12 => ?_
        · refine (e_call (r0, [(Ins.z .say).d, (Ins.u .put 0).d, (Ins.u .get 0).d, (Ins.u .add 0).d, (Ins.z .ask).d]) (a_2 (e_var rfl) (e_lst (a_cons (e_tup (a_1 e_str)) (a_cons (e_tup (a_2 e_str e_int)) (a_3 (e_tup (a_2 e_str e_int)) (e_tup (a_2 e_str e_int)) (e_tup (a_1 e_str))))))) ⟨by show 0 < 5; omega, by show 5 < 100000; omega⟩).imp fun d hd => ?_
          have hd2 : d ∈ [(Ins.z .say).d, (Ins.u .put 0).d, (Ins.u .get 0).d, (Ins.u .add 0).d, (Ins.z .ask).d] := hd
          simp only [List.mem_cons, List.not_mem_nil, or_false] at hd2
          rcases hd2 with rfl | rfl | rfl | rfl | rfl
          · exact ⟨_, rfl, trivial⟩
          · exact ⟨_, rfl, by omega, by show (0 : Int) ≤ 6; omega⟩
          · exact ⟨_, rfl, by omega, by show (0 : Int) ≤ 3; omega⟩
          · exact ⟨_, rfl, by omega, by show (0 : Int) ≤ 3; omega⟩
          · exact ⟨_, rfl, trivial⟩
        · obtain ⟨x, rfl, _⟩ := hd
          rw [ins_app]
          exact ins_not _
        · obtain ⟨x2, rfl, hx2⟩ := hd
          rw [ins_app] at o12
          have op12 := ((op10.stay e11).step z12.vv).other (o := .lst xs12) nq2
          have hl4 : (fl3 ++ [x2]).length = fl3.length + 1 := by
            rw [List.length_append]
            rfl
          refine ⟨W12, fl3 ++ [x2], sp ++ [fl.length], q2, p, _, nq2.symm, by rw [List.length_append, hsp]; rfl, by omega, by omega, fun y hy => ?_, fun y hy => ?_, ex10.trans z12.up, s12, o12, op12⟩
          · have := hs3 y hy
            omega
          · rcases List.mem_append.mp hy with hy | hy
            · exact hi10 y hy
            · rw [List.mem_singleton.mp hy]
              exact hx2
      · unfold tNext
        exact ⟨W10, fl3, sp ++ [fl.length], q2, p, _, nq2.symm, by rw [List.length_append, hsp]; rfl, by omega, by omega, hs3, hi10, ex10, s11, o10.stay e11, op10.stay e11⟩
  · rintro σ' W' H' ⟨fl, sp, q, p, a, nqp, hsp, hfl, hfl2, hall, hins, e1, ss, owq, owp⟩
    dsimp only
    refine s_appR (n := 4) (d := .int (fl.length : Int)) rfl owp ((len_map Ins.d fl) ▸ rd_lenO ss rfl owq) (fun W => rfl) ss (by rw [len_map]; omega) (by rw [nats_set]; exact rowD_nats _) fun xs s6 op6 => ?_
    rw [nats_set] at op6
    have oq6 := owq.other (o := .lst xs) nqp
    dsimp only
    obtain ⟨W7, s7, e7, ot7⟩ := s6.release (n := 4) op6 rfl
    have oq7 := ot7 q _ oq6 nqp
    obtain ⟨W8, s8, e8, _⟩ := s7.release (n := 3) oq7 rfl
    have hs3 : ∀ y ∈ sp ++ [fl.length], y ≤ fl.length := fun y hy => by
      rcases List.mem_append.mp hy with hy | hy
      · exact hall y hy
      · rw [List.mem_singleton.mp hy]
        exact Nat.le_refl _
    have hsl : (sp ++ [fl.length]).length = pr.length + 1 := by rw [List.length_append, hsp]; rfl
    generalize sp ++ [fl.length] = sp2 at hs3 hsl s8
    refine s_ret (A := fun d => ∃ l, d = .tup l ∧ ∃ pl : List Ins, l = pl.map Ins.d ∧ pl.length = fl.length ∧ ∀ x ∈ pl, InsOk fl.length x) (ee_tupL (A := fun l => ∃ pl : List Ins, l = pl.map Ins.d ∧ pl.length = fl.length ∧ ∀ x ∈ pl, InsOk fl.length x) (El.e ?_)) s8 e fun d v W9 H9 hd z9 rv => ?_
    rotate_left
    · obtain ⟨l, rfl, pl, rfl, h1, h2⟩ := hd
      exact k _ _ _ _ ⟨pl, rfl, by omega, by omega, by unfold ProgOk; rw [h1]; exact h2⟩ z9 rv
    have lfl : (fl.map Ins.d).length = fl.length := len_map ..
    refine El.imp (el_lcQ (A := fun d => ∃ x : Ins, d = x.d ∧ InsOk fl.length x) (Z := fun n el => n = fl.length ∧ el = fun i => (fl.map Ins.d).getD i .non) (δ' := fun _ _ i => [.d r0.d, .d mc.d, .d (progT pr), .d (.lst (fl.map Ins.d)), .d (.lst (sp2.map fun (n : Nat) => D.int (n : Int))), .d ((fl.map Ins.d).getD i .non)]) (lfl ▸ io_list (e_var rfl)) (fun n el i hz hi => ?_) (fun n el hz => ?_) (fun l hl => rowD_nints fun d hd => ?_) fun n el i hz hi => ?_) fun l hl => ?_
    · obtain ⟨_, rfl⟩ := hz
      exact tg_name
    · obtain ⟨rfl, _⟩ := hz
      omega
    · obtain ⟨x, rfl, _⟩ := hl d hd
      cases x <;> rfl
    · obtain ⟨hn, rfl⟩ := hz
      rw [hn] at hi
      rw [getD_ins hi]
      have hio := hins _ (List.getElem_mem hi)
      generalize fl[i] = one at hio
      refine e_if (t_t (e_op (e_ins0 (e_var rfl)) (e_lst (a_2 e_str e_str)) (o_inS ["zero", "go"]))) (fun hb => ?_) (fun hb => ?_)
      · rw [am_jmp] at hb
        cases one with
        | z o => cases hb
        | u o v =>
          obtain ⟨h1, h2⟩ := hio
          have ht : o.top pr.length = (pr.length : Int) := by cases o <;> first | rfl | cases hb
          have ht2 : o.top fl.length = (fl.length : Int) := by cases o <;> first | rfl | cases hb
          rw [ht] at h2
          obtain ⟨v, rfl⟩ := Int.eq_ofNat_of_zero_le h1
          have hv : v < sp2.length := by omega
          have hv2 := hs3 _ (List.getElem_mem hv)
          refine (e_tup (ds := [.str o.nm, .int (sp2[v] : Int)]) (a_2 (e_ins0 (i := .u o (v : Int)) (e_var rfl)) (e_op (e_var rfl) (e_ins1 (e_var rfl)) (o_ixL (d := .int (sp2[v] : Int)) (atI_nat (by rw [List.getElem?_map, List.getElem?_eq_getElem hv]; rfl))))) (hl := by show 2 ≤ 100000; omega)).imp fun d hd => ⟨.u o (sp2[v] : Int), hd, by omega, by rw [ht2]; omega⟩
      · rw [am_jmp] at hb
        refine (e_var rfl).imp fun d hd => ⟨one, hd, ?_⟩
        cases one with
        | z o => trivial
        | u o v =>
          obtain ⟨h1, h2⟩ := hio
          refine ⟨h1, ?_⟩
          have ht : o.top fl.length = o.top pr.length := by cases o <;> first | rfl | cases hb
          rw [ht]
          exact h2
    · obtain ⟨n, el, ⟨hn, _⟩, h3, h4⟩ := hl
      have hex : ∀ {l : List D}, (∀ d ∈ l, ∃ x : Ins, d = x.d ∧ InsOk fl.length x) → ∃ pl : List Ins, l = pl.map Ins.d ∧ ∀ x ∈ pl, InsOk fl.length x := by
        intro l
        induction l with
        | nil => exact fun _ => ⟨[], rfl, fun x h => (by cases h)⟩
        | cons d l ih =>
          intro h
          obtain ⟨x, rfl, hx⟩ := h d (List.mem_cons_self ..)
          obtain ⟨pl, rfl, hp⟩ := ih fun y hy => h y (List.mem_cons_of_mem _ hy)
          exact ⟨x :: pl, rfl, fun y hy => by
            rcases List.mem_cons.mp hy with rfl | hy
            · exact hx
            · exact hp y hy⟩
      obtain ⟨pl, rfl, hp⟩ := hex h4
      exact ⟨pl, rfl, by rw [len_map] at h3; omega, hp⟩
end K11
/-! K11Z: words and lines of a text. -/
namespace K11
open PySem PySem.Spec PyProof.Rows
open L2
section
variable (K : PySem.W.Frag) (T : List (Addr × Str))
/-- a def that hands on a new list, that nobody else knows -/
def spL (P : List Addr) {ι : Type} (args : ι → List D) (pre : ι → Prop) (post : ι → List D → Prop) : Sp := fun vs H Q _ =>
  ∃ i W, Ex K T W H ∧ RpL K W (args i) vs ∧ Gd T P W ∧ pre i ∧ ∀ ds xs p W' H', post i ds → Vv K T W H W' H' → W' p = none → H p = none → H' p = some (.lst xs) → rowish xs = false → RpL K W' ds xs → Q (.ref p) H'
end
section
variable {K : PySem.W.Frag} {T : List (Addr × Str)} {P : List Addr} {B : Hp} {δ δ' : List Sl} {te ta tc : TE} {A : D → Prop} {wi : TI} {a b c d : D} {W W0 H H1 H2 : Hp} {σ : L2.St} {t : TT} {tu tw : TS} {D0 : Ends}
theorem spL_len {ι : Type} {args : ι → List D} {pre : ι → Prop} {post : ι → List D → Prop} {n : Nat} (h : ∀ i, (args i).length = n) : ∀ vs H Q E, spL K T P args pre post vs H Q E → vs.length = n := by
  rintro vs H Q E ⟨i, W, _, r, _⟩
  rw [rpl_len r, h]
theorem el_call {ι : Type} {args : ι → List D} {pre : ι → Prop} {post : ι → List D → Prop} {X : XK} {ta : TA} (n : ι) (h : Ea1 K T P B ta δ (args n)) (hn : pre n) : El K T P B (tCall (spL K T P args pre post) [] X ta) δ (post n) := fun σ W R H1 e Q q => h σ W R H1 e _ fun ds vs W2 H2 hd z2 rv => by
  subst hd
  exact ⟨n, W2, z2.to, by rw [List.append_nil]; exact rv, R.g.mono z2.up, hn, fun ds xs p W3 H3 hd z3 n1 n2 hl g rl => q ds xs p W3 H3 hd (z2.vv.trans z3) n1 (z2.ac.has p n2) hl g rl⟩
theorem s_retL {A : List D → Prop} (h : El K T P B te δ A) (s : SS K T P B W0 H W H1 δ σ) (k : ∀ ds xs p W' H2, A ds → Vv K T W0 H W' H2 → W' p = none → H p = none → H2 p = some (.lst xs) → rowish xs = false → RpL K W' ds xs → D0.rt (.ref p) H2) : tRet te D0 σ H1 :=
  h σ W s.r H1 s.y.to _ fun ds xs p W' H2 hd z n1 n2 hl g rl => k ds xs p W' H2 hd (s.y.trans z) n1 (s.y.ac.has p n2) hl g rl
end
theorem pt_truK (K : PySem.W.Frag) {X : Cx} {a : Expr} {ta : TE} (ha : PE X a ta) (h : X.K = K := by rfl) (he : ∀ whole, isTrue a X.env whole = (do let v ← whole; standAt a.pos; holding [v] (truthy v)) := by intro _; rfl) :
    PT X a (fun σ H Q => ta σ H fun x H' => ∃ k, TruV K x H' k ∧ Q k H') := by
  subst h
  exact pt_truth ha he
theorem pe_joinK (K : PySem.W.Frag) {X : Cx} {o e : Expr} {to te : TE} {apos pos : Pos} (ho : PE X o to) (he : PE X e te) (h : X.K = K := by rfl) (hs : starEach [e] X.env = [(false, eval e X.env)] := by rfl) (hbase : attributeBase o "join" X.env (eval o X.env) = eval o X.env := by rfl) (hline : (apos.endLine == pos.line) = true := by rfl) :
    PE X (.Call (.Attribute o "join" apos) [e] [] pos) (tM1 (fun x xs H Q => ∃ a p, ∃ ys : List Str, x = .str a ∧ xs = [.ref p] ∧ (SqL K H p (ys.map V.str) ∨ SqT K H p (ys.map V.str)) ∧ (ys.map (·.length)).sum + ys.length * a.length ≤ 16777216 ∧ Q (.str (Txt.join a ys)) H) to te) := by
  subst h
  exact pe_join ho he hs hbase hline
def wordsOf (l : Str) : List Str := (Txt.split l " ").filter fun w => decide (w ≠ Str.empty)
theorem range_filter_map {α β : Type} (l : List α) (t : α → Bool) (f : α → β) (a0 : α) : ((List.range l.length).filter (fun i => t (l.getD i a0))).map (fun i => f (l.getD i a0)) = (l.filter t).map f := by
  have h : ∀ (l : List α), (List.range l.length).map (fun i => l.getD i a0) = l := fun l => by
    apply List.ext_getElem
    · simp
    · intro i h1 h2
      simp only [List.getElem_map, List.getElem_range]
      rw [List.getD_eq_getElem?_getD, List.getElem?_eq_getElem h2]
      rfl
  conv => rhs; rw [← h l]
  rw [List.filter_map, List.map_map]
  rfl
theorem getD_str {l : List Str} {i : Nat} (h : i < l.length) : (l.map D.str).getD i .non = .str (l.getD i Str.empty) := by
  rw [List.getD_eq_getElem?_getD, List.getElem?_map, List.getElem?_eq_getElem h, List.getD_eq_getElem?_getD, List.getElem?_eq_getElem h]
  rfl
theorem sp_nz : ((" " : Str).length == 0) = false := by decide +kernel
theorem nl_nz : (("\n" : Str).length == 0) = false := by decide +kernel
variable {PP : Program} {w : World} {K : PySem.W.Frag} {T : List (Addr × Str)} {P : List Addr} {mg : Str → Option Value} {base : Heap}
theorem sc_words_in : FnScope ["line", "word"] ["line"] (defScope (topS 29)) := ⟨rfl, rfl, rfl, by decide +kernel, rfl, by decide +kernel, by decide +kernel⟩
abbrev sp_words (K : PySem.W.Frag) (T : List (Addr × Str)) (P : List Addr) : Sp := spF K T P (ι := Str) (fun i => [.str i]) (fun i => i.length ≤ 20000) (fun i d => d = .lst ((wordsOf i).map .str))
theorem ok_words {f : Addr} {fd : FuncData} (TT : Tx K mg) (F : Dfn K mg "words_in" 29 ["line"] f fd) : FnOk PP w K mg base CX0 1 f fd ["line"] (sp_words K T P) := by
  refine F.ok sc_words_in (spF_len fun _ => rfl) fun cdv A outer s H vs Q XE hr h => ?_
  obtain ⟨l, W, e, r, g, hl, k⟩ := h
  dsimp only at hl k r
  refine ⟨_, (pss_one (ps_ret (pe_lc (g := gName 1) (own := [("word", 1)]) (by rfl) sc_words_in.nd (piL K (pe_split (pv 0) pe_str)) (blkOk_by (own := [("word", 1)]) (by rfl)) (fun _ _ _ _ _ => (pg_name (i := 1) sc_words_in.nd rfl (Or.inl rfl))) (fun _ _ _ _ _ => (pts_one (pt_cmpR op_ne (pv 1) pe_str (nomark _)))) (fun _ _ _ _ _ => (pv 1))))), ?_⟩
  have s0 := ss_start (N := ["line", "word"]) e r g
  refine s_ret1 (d := .lst ((wordsOf l).map .str)) (El.e1 ?_) s0 e fun v W' H2 z rv => k _ _ _ _ rfl z rv
  have hs : ((Txt.split l " ").map D.str).length = (Txt.split l " ").length := len_map ..
  have hz := PyProof.Rows.split_le l " "
  unfold wordsOf
  rw [← range_filter_map _ _ _ Str.empty, ← hs]
  refine el_lcF (δ' := fun i => [.d (.str l), .d (.str ((Txt.split l " ").getD i Str.empty))]) (io_list (e_split (e_var rfl) e_str sp_nz (by omega))) (fun i hi => Tg.cast (d' := .str ((Txt.split l " ").getD i Str.empty)) (getD_str (by rw [hs] at hi; exact hi)) tg_name) (by rw [hs]; omega) (fun i _ => rowD_nints fun d hd => ?_) (fun i hi => ?_) fun i hi _ => e_var rfl
  · obtain ⟨_, _, rfl⟩ := List.mem_map.mp hd
    rfl
  · refine (t_t (e_op (e_var rfl) e_str o_neS)).is ?_
    show (!decide (_ = _)) = decide (_ ≠ _)
    rw [decide_not]
    rfl
/-- a line's words and its number -/
abbrev LnD (x : List Str × Nat) : D := .tup [.lst (x.1.map .str), .int (x.2 : Int)]
def linesOf (text : Str) : List (List Str × Nat) := ((List.range (Txt.split text "\n").length).filter fun i => !(wordsOf ((Txt.split text "\n").getD i Str.empty)).isEmpty).map fun i => (wordsOf ((Txt.split text "\n").getD i Str.empty), i + 1)
theorem getD_part {x y : Str} {n : Nat} (h : x.length ≤ n) (i : Nat) : ((Txt.split x y).getD i Str.empty).length ≤ n := by
  rw [List.getD_eq_getElem?_getD]
  cases q : (Txt.split x y)[i]? with
  | none => exact Nat.zero_le _
  | some z =>
    have k := PyProof.Rows.part_short (List.mem_of_getElem? q)
    exact Nat.le_trans k h
theorem sc_lines_in : FnScope ["text", "lines", "at", "line"] ["text"] (defScope (topS 33)) := ⟨rfl, rfl, rfl, by decide +kernel, rfl, by decide +kernel, by decide +kernel⟩
abbrev sp_lines (K : PySem.W.Frag) (T : List (Addr × Str)) (P : List Addr) : Sp := spL K T P (ι := Str) (fun i => [.str i]) (fun i => i.length ≤ 20000) (fun i l => l = (linesOf i).map LnD)
theorem ok_lines {f f1 : Addr} {fd fd1 : FuncData} (TT : Tx K mg) (F : Dfn K mg "lines_in" 33 ["text"] f fd)
    (D_words_in : Dfn K mg "words_in" 29 ["line"] f1 fd1) (G_words_in : FnOk PP w K mg base CX0 1 f1 fd1 ["line"] (sp_words K T P)) :
    FnOk PP w K mg base CX0 2 f fd ["text"] (sp_lines K T P) := by
  refine F.ok sc_lines_in (spL_len fun _ => rfl) fun cdv A outer s H vs Q XE hr h => ?_
  obtain ⟨x, W, e, r, g, hx, k⟩ := h
  dsimp only at hx k r
  refine ⟨_, (pss_cons (ps_set (i := 1) sc_lines_in.nd rfl (Or.inl rfl) (pe_split (pv 0) pe_str))
      (pss_one (ps_ret (pe_lc (g := gTup K 2 (gCons (gName 2) (gCons (gName 3) (gNil)))) (own := [("at", 2), ("line", 3)]) (by rfl) sc_lines_in.nd (pi_enum (by rfl) TT.b_enumerate (pa_cons (pv 1) pa_nil)) (blkOk_by (own := [("at", 2), ("line", 3)]) (by rfl)) (fun _ _ _ _ _ => (pg_tup (by rfl) (pgs_cons (pg_name (i := 2) sc_lines_in.nd rfl (Or.inl rfl)) (pgs_cons (pg_name (i := 3) sc_lines_in.nd rfl (Or.inl rfl)) pgs_nil)))) (fun _ _ _ _ _ => (pts_one (pt_truK K (pe_call G_words_in (hr.mono (by decide)) (by rfl) D_words_in.mg D_words_in.kp D_words_in.b .nil pass0 (pa_cons (pv 3) pa_nil))))) (fun _ _ _ _ _ => (pe_tup (pa_cons (pe_call G_words_in (hr.mono (by decide)) (by rfl) D_words_in.mg D_words_in.kp D_words_in.b .nil pass0 (pa_cons (pv 3) pa_nil)) (pa_cons (pe_op op_add (pv 2) pe_int) pa_nil)))))))), ?_⟩
  have s0 := ss_start (N := ["text", "lines", "at", "line"]) e r g
  have hz := PyProof.Rows.split_le x "\n"
  have hs : ((Txt.split x "\n").map D.str).length = (Txt.split x "\n").length := len_map ..
  refine s_asg1 (d := .lst ((Txt.split x "\n").map .str)) (e_split (e_var rfl) e_str nl_nz (by omega)) s0 fun v W1 H1 z1 s1 => ?_
  dsimp only
  refine s_retL (A := fun l => l = (linesOf x).map LnD) ?_ s1 fun ds xs p W' H2 hA z n1 n2 hl gg rl => k ds xs p W' H2 hA z n1 n2 hl gg rl
  unfold linesOf
  rw [List.map_map, ← hs]
  refine el_lcF (δ' := fun i => [.d (.str x), .d (.lst ((Txt.split x "\n").map .str)), .d (.int (i : Int)), .d (.str ((Txt.split x "\n").getD i Str.empty))]) (io_enum (a_1 (e_var rfl))) (fun i hi => ?_) (by rw [hs]; omega) (fun i _ => rowD_nints fun d hd => ?_) (fun i hi => ?_) fun i hi _ => ?_
  · rw [getD_str (by rw [hs] at hi; exact hi)]
    exact tg_pair
  · obtain ⟨_, _, rfl⟩ := List.mem_map.mp hd
    rfl
  · refine (t_truL (e_call ((Txt.split x "\n").getD i Str.empty) (a_1 (e_var rfl)) (getD_part hx i))).is ?_
    rw [List.isEmpty_map]
  · refine E1.is (c := .tup [.lst ((wordsOf ((Txt.split x "\n").getD i Str.empty)).map .str), .int ((i : Int) + 1)]) ?_ rfl
    exact e_tup (a_2 (e_call ((Txt.split x "\n").getD i Str.empty) (a_1 (e_var rfl)) (getD_part hx i)) (e_op (e_var rfl) e_int o_add)) (hl := by show 2 ≤ 100000; omega)
end K11
/-! K11ZA: the machine's text. -/
namespace K11
open PySem PySem.Spec PyProof.Rows
open L2
abbrev numS (i : Int) : Str := toString i
theorem numS_1 {n : Int} (h0 : 0 ≤ n) (h1 : n < 10) : (numS n).length = 1 := by
  rcases (by omega : n = 0 ∨ n = 1 ∨ n = 2 ∨ n = 3 ∨ n = 4 ∨ n = 5 ∨ n = 6 ∨ n = 7 ∨ n = 8 ∨ n = 9) with rfl | rfl | rfl | rfl | rfl | rfl | rfl | rfl | rfl | rfl <;> decide +kernel
theorem log_small {n : Int} (h0 : 0 ≤ n) (h1 : n < 100000) : n.natAbs.log2 < 1920 := by
  by_cases h : n.natAbs = 0
  · rw [h]
    decide
  · have q : n.natAbs.log2 < 17 := (Nat.log2_lt h).mpr (by omega)
    omega
def rowTxt (x : Str) (r : List Int) : Str := x ++ " " ++ Txt.join " " (r.map numS)
def parts (m : Mac) : List (Str × List (List Int)) := [("stir", m.st), ("write", m.wr), ("see", m.si)]
def macRows (m : Mac) (k : Nat) : List Str := ("prime " ++ numS m.p) :: ((parts m).take k).flatMap fun x => x.2.map (rowTxt x.1)
def macText (m : Mac) : Str := Txt.join "\n" (macRows m 3)
theorem sum_le {B : Nat} : ∀ {l : List Str}, (∀ x ∈ l, x.length ≤ B) → (l.map (·.length)).sum ≤ l.length * B
  | [], _ => Nat.zero_le _
  | x :: l, h => by
    have h1 := h x (List.mem_cons_self ..)
    have h2 := sum_le (l := l) fun y hy => h y (List.mem_cons_of_mem _ hy)
    rw [List.map_cons, List.sum_cons, List.length_cons, Nat.succ_mul]
    omega
theorem join_le {B : Nat} {l : List Str} {y : Str} (h : ∀ x ∈ l, x.length ≤ B) : (Txt.join y l).length ≤ l.length * (B + y.length) := by
  have h1 := StrLaws.join_length_le y l
  have h2 := sum_le h
  have e : Txt.join y l = Str.join y l := StrLaws.glued_eq_join y l
  rw [e, Nat.mul_add]
  omega
theorem join_fit {B : Nat} {l : List Str} {y : Str} (h : ∀ x ∈ l, x.length ≤ B) (hb : l.length * (B + y.length) ≤ 16777216) : (l.map (·.length)).sum + l.length * y.length ≤ 16777216 := by
  have h2 := sum_le h
  rw [Nat.mul_add] at hb
  omega
theorem num_row {p : Int} {n : Nat} (hp : p ≤ 7) {r : List Int} (h : RowOk p n r) : ∀ x ∈ r.map numS, x.length ≤ 1 := by
  intro x hx
  obtain ⟨y, hy, rfl⟩ := List.mem_map.mp hx
  have q := h.rng y hy
  rw [numS_1 q.1 (by omega)]
  exact Nat.le_refl _
theorem one_sp : (" " : Str).length = 1 := by decide +kernel
theorem one_nl : ("\n" : Str).length = 1 := by decide +kernel
theorem row_le {p : Int} {n : Nat} (hp : p ≤ 7) (hn : n ≤ 4) {r : List Int} (h : RowOk p n r) {x : Str} (hx : x.length ≤ 5) : (rowTxt x r).length ≤ 14 := by
  unfold rowTxt
  have h1 := join_le (y := " ") (num_row hp h)
  rw [len_map, h.len, one_sp] at h1
  rw [Str.length_append, Str.length_append, one_sp]
  omega
theorem Mac.Ok.tab {m : Mac} (h : m.Ok) : ∀ x ∈ parts m, x.1.length ≤ 5 ∧ x.2.length ≤ 4 ∧ ∀ r ∈ x.2, RowOk m.p m.n r := by
  have hs := h.st
  have hsl := hs.len
  have h4 := h.n4
  intro x hx
  simp only [parts, List.mem_cons, List.not_mem_nil, or_false] at hx
  rcases hx with rfl | rfl | rfl
  · exact ⟨by show ("stir" : Str).length ≤ 5; decide +kernel, by show m.st.length ≤ 4; omega, hs.row⟩
  · exact ⟨by show ("write" : Str).length ≤ 5; decide +kernel, h.wr.hi, h.wr.row⟩
  · exact ⟨by show ("see" : Str).length ≤ 5; decide +kernel, h.si.hi, h.si.row⟩
theorem Mac.Ok.rows {m : Mac} (h : m.Ok) (k : Nat) : (∀ x ∈ macRows m k, x.length ≤ 14) ∧ (macRows m k).length ≤ 13 := by
  have ht := h.tab
  have pb := h.pr.pos
  refine ⟨fun x hx => ?_, ?_⟩
  · rcases List.mem_cons.mp hx with rfl | hx
    · rw [Str.length_append, numS_1 (by omega) (by omega)]
      have : ("prime " : Str).length = 6 := by decide +kernel
      omega
    · obtain ⟨y, hy, hx⟩ := List.mem_flatMap.mp hx
      obtain ⟨r, hr, rfl⟩ := List.mem_map.mp hx
      obtain ⟨h1, _, h3⟩ := ht y (List.mem_of_mem_take hy)
      exact row_le pb.2 h.n4 (h3 r hr) h1
  · unfold macRows
    have hs := h.st.len
    have h4 := h.n4
    have hw := h.wr.hi
    have hsi := h.si.hi
    match k with
    | 0 => simp [parts]
    | 1 => simp [parts]; omega
    | 2 => simp [parts]; omega
    | k + 3 => simp [parts]; omega
theorem macRows_succ {m : Mac} {k : Nat} (h : k < 3) : macRows m (k + 1) = macRows m k ++ (((parts m).getD k ("", [])).2.map (rowTxt ((parts m).getD k ("", [])).1)) := by
  match k, h with
  | 0, _ => simp [macRows, parts]
  | 1, _ => simp [macRows, parts]
  | 2, _ => simp [macRows, parts]
section
variable {K : PySem.W.Frag} {T : List (Addr × Str)} {P : List Addr} {B : Hp} {δ : List Sl} {te : TE}
theorem rowD_strs (ss : List Str) : rowD (ss.map .str) = false := rowD_str ss
/-- the texts of a row's numbers, joined -/
theorem e_rowTxt {tw ti : TE} {g : TG} {vs : List Nat} {p : Int} {n : Nat} {x : Str} {r : List Int} {δ' : Nat → List Sl} (hp : p ≤ 7) (hn : n ≤ 4) (hr : RowOk p n r) (hx : x.length ≤ 5) (hw : E1 K T P B tw δ (.str x)) (hi : E1 K T P B ti δ (rowT r)) (hg : ∀ i, i < r.length → Tg K T P B g (.int (r.getD i 0)) vs (wipeS δ vs) (δ' i)) (hv : ∀ i, i < r.length → E1 K T P B te (δ' i) (.int (r.getD i 0))) :
    E1 K T P B (tOp (fun x y H Q => ∃ i j, x = .str i ∧ y = .str j ∧ i.length + j.length ≤ sizeLine ∧ Q (.str (i ++ j)) H) (tOp (fun x y H Q => ∃ i j, x = .str i ∧ y = .str j ∧ i.length + j.length ≤ sizeLine ∧ Q (.str (i ++ j)) H) tw (tC (.str " ")))
      (tM1 (fun x xs H Q => ∃ a p, ∃ ys : List Str, x = .str a ∧ xs = [.ref p] ∧ (SqL K H p (ys.map V.str) ∨ SqT K H p (ys.map V.str)) ∧ (ys.map (·.length)).sum + ys.length * a.length ≤ 16777216 ∧ Q (.str (Txt.join a ys)) H) (tC (.str " "))
        (tLc (iTup K ti) g tYes (tCB (fun xs H Q => ∃ i : Int, xs = [.int i] ∧ i.natAbs.log2 < 1920 ∧ Q (.str (toString i)) H) (tCons te tNil)) vs))) δ (.str (rowTxt x r)) := by
  have hl : (r.map D.int).length = r.length := len_map ..
  have hj := join_le (y := " ") (num_row hp hr)
  rw [len_map, hr.len, one_sp] at hj
  refine e_op (e_op hw e_str (o_catS (by rw [one_sp]; omega))) (e_join (ys := r.map numS) e_str (El.e1 ?_) (join_fit (num_row hp hr) (by rw [len_map, hr.len, one_sp]; omega))) (o_catS (by rw [Str.length_append, one_sp]; omega))
  have hm : (r.map numS).map D.str = (List.range (r.map D.int).length).map (fun i => D.str (numS (r.getD i 0))) := by
    rw [hl, List.map_map]
    apply List.ext_getElem
    · simp
    · intro i h1 h2
      have hi1 : i < r.length := by simpa using h1
      have z : r.getD i 0 = r[i] := by
        rw [List.getD_eq_getElem?_getD, List.getElem?_eq_getElem hi1]
        rfl
      simp only [List.getElem_map, List.getElem_range, Function.comp]
      rw [z]
  rw [hm]
  refine el_lcM (δ' := δ') (io_tup hi) (fun i hi => ?_) (by rw [hl, hr.len]; omega) (fun i _ => rowD_nints fun d hd => ?_) fun i hi => ?_
  · rw [hl] at hi
    rw [getD_int hi]
    exact hg i hi
  · obtain ⟨_, _, rfl⟩ := List.mem_map.mp hd
    rfl
  · rw [hl] at hi
    have q := inR_get hr.rng (by have := hr.rng _ (getD_mem (d := 0) hi); omega) i
    exact e_cb (a_1 (hv i hi)) (c_strI (log_small q.1 (by omega)))
end
variable {PP : Program} {w : World} {K : PySem.W.Frag} {T : List (Addr × Str)} {P : List Addr} {mg : Str → Option Value} {base : Heap}
theorem sc_law_machine_text : FnScope ["_law_machine_here", "_law_rows", "_law_word", "_law_table", "_law_line", "_law_number"] ["_law_machine_here"] (defScope (topS 54)) := ⟨rfl, rfl, rfl, by decide +kernel, rfl, by decide +kernel, by decide +kernel⟩
abbrev sp_mtext (K : PySem.W.Frag) (T : List (Addr × Str)) (P : List Addr) : Sp := spF K T P (ι := Mac) (fun i => [i.d]) (fun i => i.Ok) (fun i d => d = .str (macText i))
theorem ok_mtext {f : Addr} {fd : FuncData} (TT : Tx K mg) (F : Dfn K mg "_law_machine_text" 54 ["_law_machine_here"] f fd) : FnOk PP w K mg base CX0 1 f fd ["_law_machine_here"] (sp_mtext K T P) := by
  refine F.ok sc_law_machine_text (spF_len fun _ => rfl) fun cdv A outer s H vs Q XE hr h => ?_
  obtain ⟨m, W, e, r, g, mo, k⟩ := h
  dsimp only at mo k r
  refine ⟨_, (pss_cons (ps_set (i := 1) sc_law_machine_text.nd rfl (Or.inl rfl) (pe_lst (pa_cons (pe_op op_add_str pe_str (pe_callTy call_str_int (by rfl) TT.b_str (by decide +kernel) (pa_cons (pe_ix (ixT K) (pv 0) pe_int (fun _ _ => rfl)) pa_nil))) pa_nil)))
      (pss_cons (ps_for PassesOwn.never rfl (pi_zipX (by rfl) TT.b_zip (pa_cons (pe_lst (pa_cons pe_str (pa_cons pe_str (pa_cons pe_str pa_nil)))) (pa_cons (pe_slice (slTK K) (pv 0) (po_some pe_int) po_none) pa_nil))) (pg_tup (by rfl) (pgs_cons (pg_name (i := 2) sc_law_machine_text.nd rfl (Or.inr rfl)) (pgs_cons (pg_name (i := 3) sc_law_machine_text.nd rfl (Or.inl rfl)) pgs_nil)))
      (pss_one (ps_set (i := 1) sc_law_machine_text.nd rfl (Or.inl rfl) (pe_op op_cat (pv 1) (pe_lc (g := gName 4) (own := [("_law_line", 4)]) (by rfl) sc_law_machine_text.nd (piT K (pv 3)) (blkOk_by (own := [("_law_line", 4)]) (by rfl)) (fun _ _ _ _ _ => (pg_name (i := 4) sc_law_machine_text.nd rfl (Or.inl rfl))) (fun _ _ _ _ _ => pts_nil) (fun _ _ _ _ _ => (pe_op op_add_str (pe_op op_add_str (pv 2) pe_str) (pe_joinK K pe_str (pe_lc (g := gName 5) (own := [("_law_number", 5)]) (by rfl) sc_law_machine_text.nd (piT K (pv 4)) (blkOk_by (own := [("_law_number", 5)]) (by rfl)) (fun _ _ _ _ _ => (pg_name (i := 5) sc_law_machine_text.nd rfl (Or.inl rfl))) (fun _ _ _ _ _ => pts_nil) (fun _ _ _ _ _ => (pe_callTy call_str_int (by rfl) TT.b_str (by decide +kernel) (pa_cons (pv 5) pa_nil))))))))))))
      (pss_one (ps_ret (pe_joinK K pe_str (pv 1)))))), ?_⟩
  have pb := mo.pr.pos
  have s0 := ss_start (N := ["_law_machine_here", "_law_rows", "_law_word", "_law_table", "_law_line", "_law_number"]) e r g
  refine s_asg1 (d := .lst ((macRows m 0).map .str)) (e_lst (a_1 (e_op e_str (e_cb (a_1 (e_op (e_var rfl) e_int (o_ixT (d := .int m.p) rfl))) (c_strI (log_small (by omega) (by omega)))) (o_catS ?_))) (hl := by show 1 ≤ 100000; omega)) s0 fun v W1 H1 z1 s1 => ?_
  · have h6 : ("prime " : Str).length = 6 := by decide +kernel
    rw [h6, numS_1 (by omega) (by omega)]
    omega
  dsimp only
  have hcut : cutD [.int m.p, rowsT m.st, rowsT m.wr, rowsT m.si] (some 1) none = [rowsT m.st, rowsT m.wr, rowsT m.si] := rfl
  refine s_for (io_zipX (l := [.str "stir", .str "write", .str "see"]) (m := cutD [.int m.p, rowsT m.st, rowsT m.wr, rowsT m.si] (some 1) none) (a_2 (e_lst (a_3 e_str e_str e_str)) (e_slT (e_var rfl) (p_some e_int) p_none ?_)) rfl) s1 fun n el W2 H2 hz z2 s2 => ?_
  · show ¬ (HT.sIx 4 0 (some 1) = 0 ∧ _)
    intro h
    exact absurd h.1 (by decide)
  obtain ⟨hn, rfl⟩ := hz
  have hn : n = 3 := hn
  subst hn
  refine ⟨fun i σ' W' H' => ∃ a b, Ex K T W2 W' ∧ SS K T P W W H W' H' [.d m.d, .d (.lst ((macRows m i).map .str)), a, b, .no, .no] σ', ?_, ?_, ?_, ?_⟩
  · exact ⟨_, _, Ex.refl _, s2⟩
  · rintro i σ' W' H' _ ⟨a, b, e1, ss⟩
    exact ⟨e1, _, ss⟩
  · rintro i σ' W' H' hi ⟨a, b, e1, ss⟩
    have hpt : ∃ x t, (x, t) ∈ parts m ∧ (parts m).getD i ("", []) = (x, t) ∧ ([D.str "stir", .str "write", .str "see"].getD i .non) = .str x ∧ ((cutD [.int m.p, rowsT m.st, rowsT m.wr, rowsT m.si] (some 1) none).getD i .non) = rowsT t := by
      rw [hcut]
      match i, hi with
      | 0, _ => exact ⟨_, _, List.mem_cons_self .., rfl, rfl, rfl⟩
      | 1, _ => exact ⟨_, _, List.mem_cons_of_mem _ (List.mem_cons_self ..), rfl, rfl, rfl⟩
      | 2, _ => exact ⟨_, _, List.mem_cons_of_mem _ (List.mem_cons_of_mem _ (List.mem_cons_self ..)), rfl, rfl, rfl⟩
    obtain ⟨x, t, hmem, hget, hx, htt⟩ := hpt
    obtain ⟨hx5, ht4, hrow⟩ := mo.tab _ hmem
    refine ⟨_, [.d m.d, .d (.lst ((macRows m i).map .str)), .d (.str x), .d (rowsT t), .no, .no], [2, 3], ss, Tg.cast (d' := .tup [.str x, rowsT t]) (by dsimp only; rw [hx, htt]) tg_pair, fun σ2 W5 H5 z5 s5 => ?_⟩
    have hR := mo.rows i
    have lt : (t.map rowT).length = t.length := len_map ..
    have ht4 : t.length ≤ 4 := ht4
    refine s_asg1 (d := .lst ((macRows m (i + 1)).map .str)) ?_ s5 fun v W6 H6 z6 s6 => ⟨W6, _, _, e1.trans (z5.up.trans z6.up), s6⟩
    rw [macRows_succ hi, hget, List.map_append]
    refine e_op (e_var rfl) (El.e1 (l := (t.map (rowTxt x)).map .str) ?_) (o_cat ?_ ?_)
    · have hm : (t.map (rowTxt x)).map D.str = (List.range (t.map rowT).length).map (fun i => D.str (rowTxt x (t.getD i []))) := by
        rw [lt, List.map_map]
        apply List.ext_getElem
        · simp
        · intro i h1 h2
          have hi1 : i < t.length := by simpa using h1
          have z : t.getD i [] = t[i] := by
            rw [List.getD_eq_getElem?_getD, List.getElem?_eq_getElem hi1]
            rfl
          simp only [List.getElem_map, List.getElem_range, Function.comp]
          rw [z]
      rw [hm]
      refine el_lcM (δ' := fun j => [.d m.d, .d (.lst ((macRows m i).map .str)), .d (.str x), .d (rowsT t), .d (rowT (t.getD j [])), .no]) (io_tup (e_var rfl)) (fun j hj => ?_) (by rw [lt]; omega) (fun j _ => rowD_nints fun d hd => ?_) fun j hj => ?_
      · rw [lt] at hj
        rw [getD_rows hj]
        exact tg_name
      · obtain ⟨_, _, rfl⟩ := List.mem_map.mp hd
        rfl
      · rw [lt] at hj
        refine e_rowTxt (δ' := fun j2 => [.d m.d, .d (.lst ((macRows m i).map .str)), .d (.str x), .d (rowsT t), .d (rowT (t.getD j [])), .d (.int ((t.getD j []).getD j2 0))]) pb.2 mo.n4 (hrow _ (getD_mem hj)) hx5 (e_var rfl) (e_var rfl) (fun _ _ => tg_name) fun _ _ => e_var rfl
    · rw [len_map, len_map, len_map]
      omega
    · rw [← List.map_append]
      exact rowD_strs _
  · rintro σ' W' H' ⟨a, b, e1, ss⟩
    dsimp only
    have hR := mo.rows 3
    refine s_ret1 (e_join e_str (e_var rfl) (join_fit hR.1 (by rw [one_nl]; omega))) ss e fun v W8 H8 z8 rv => k _ _ _ _ rfl z8 rv
end K11
/-! K11ZB: texts that the law loosens and bends. -/
namespace K11
open PySem PySem.Spec PyProof.Rows
open L2
section
variable {K : PySem.W.Frag} {T : List (Addr × Str)} {P : List Addr} {B : Hp} {δ : List Sl} {te : TE}
theorem o_mulS {n : Nat} (h : n ≤ 2) : Ro K T rMulS (.str " ") (.int (n : Int)) (fun d => d = .str (spN n)) := by
  rintro W v w W1 H1 _ e rfl rfl Q q
  exact ⟨n, rfl, rfl, h, q _ _ _ H1 rfl (Vw.same e) rp_s⟩
end
/-- a text's lines, loosened -/
inductive Loose : List Str → List Str → Prop where
  | nil : Loose [] []
  | step {ls fs : List Str} (l : Str) (n a c : Nat) : Loose ls fs → n ≤ 1 → a ≤ 2 → c ≤ 1 → Loose (ls ++ [l]) (fs ++ List.replicate n (spN a) ++ [spN c ++ Txt.join "   " (Txt.split l " ") ++ " "])
theorem spN_le {n : Nat} (h : n ≤ 2) : (spN n).length = n := by
  match n, h with
  | 0, _ => rfl
  | 1, _ => decide +kernel
  | 2, _ => decide +kernel
theorem one_sp3 : ("   " : Str).length = 3 := by decide +kernel
theorem loose_fit {l : Str} {B : Nat} (h : l.length ≤ B) : ((Txt.split l " ").map (·.length)).sum + (Txt.split l " ").length * ("   " : Str).length ≤ 3 * B + 3 := by
  have q := PyProof.Rows.split_weight l " " (by rw [one_sp]; omega)
  rw [one_sp3]
  omega
theorem loose_len {l : Str} {B c : Nat} (h : l.length ≤ B) (hc : c ≤ 2) : (spN c ++ Txt.join "   " (Txt.split l " ") ++ " ").length ≤ 3 * B + 6 := by
  have q := loose_fit h
  have h1 := StrLaws.join_length_le "   " (Txt.split l " ")
  have e : Txt.join "   " (Txt.split l " ") = Str.join "   " (Txt.split l " ") := StrLaws.glued_eq_join _ _
  rw [Str.length_append, Str.length_append, one_sp, spN_le hc, e]
  omega
theorem Loose.len {ls fs : List Str} (h : Loose ls fs) (hl : ∀ l ∈ ls, l.length ≤ 14) : fs.length ≤ 2 * ls.length ∧ ∀ f ∈ fs, f.length ≤ 48 := by
  induction h with
  | nil => exact ⟨Nat.le_refl _, fun f hf => by cases hf⟩
  | @step ls fs l n a c _ h1 h2 h3 ih =>
    obtain ⟨i1, i2⟩ := ih fun y hy => hl y (List.mem_append_left _ hy)
    have hll := hl l (List.mem_append_right _ (List.mem_singleton.mpr rfl))
    refine ⟨?_, fun f hf => ?_⟩
    · rw [List.length_append, List.length_append, List.length_append, List.length_replicate]
      show fs.length + n + 1 ≤ 2 * (ls.length + 1)
      omega
    · rcases List.mem_append.mp hf with hf | hf
      · rcases List.mem_append.mp hf with hf | hf
        · exact i2 f hf
        · rw [List.eq_of_mem_replicate hf, spN_le h2]
          omega
      · rw [List.mem_singleton.mp hf]
        exact Nat.le_trans (loose_len hll (by omega)) (by omega)
theorem take_snoc {α : Type} {l : List α} {i : Nat} (h : i < l.length) : l.take (i + 1) = l.take i ++ [l[i]] := by
  rw [List.take_succ, List.getElem?_eq_getElem h]
  rfl
variable {PP : Program} {w : World} {K : PySem.W.Frag} {T : List (Addr × Str)} {P : List Addr} {mg : Str → Option Value} {base : Heap}
theorem sc_law_loose : FnScope ["_law_row_here", "_law_text", "_law_found", "_law_line"] ["_law_row_here", "_law_text"] (defScope (topS 52)) := ⟨rfl, rfl, rfl, by decide +kernel, rfl, by decide +kernel, by decide +kernel⟩
def TxtOk (x : Str) : Prop := x.length ≤ 20000 ∧ (Txt.split x "\n").length ≤ 21 ∧ ∀ l ∈ Txt.split x "\n", l.length ≤ 14
abbrev sp_loose (K : PySem.W.Frag) (T : List (Addr × Str)) (P : List Addr) : Sp := spF K T P (ι := Dw × Str) (fun i => [i.1.d, .str i.2]) (fun i => TxtOk i.2) (fun i d => ∃ fs, Loose (Txt.split i.2 "\n") fs ∧ d = .str (Txt.join "\n" fs))
theorem ok_loose {f f1 : Addr} {fd fd1 : FuncData} (TT : Tx K mg) (F : Dfn K mg "_law_loose" 52 ["_law_row_here", "_law_text"] f fd)
    (D_law_taken : Dfn K mg "_law_taken" 43 ["_law_row_here", "_law_many"] f1 fd1) (G_law_taken : FnOk PP w K mg base CX0 1 f1 fd1 ["_law_row_here", "_law_many"] (sp_taken K T P)) :
    FnOk PP w K mg base CX0 2 f fd ["_law_row_here", "_law_text"] (sp_loose K T P) := by
  refine F.ok sc_law_loose (spF_len fun _ => rfl) fun cdv A outer s H vs Q XE hr h => ?_
  obtain ⟨⟨r0, x⟩, W, e, r, g, ⟨hx, hx21, hx14⟩, k⟩ := h
  dsimp only at hx hx21 hx14 k r
  refine ⟨_, (pss_cons (ps_set (i := 2) sc_law_loose.nd rfl (Or.inl rfl) (pe_lst pa_nil))
      (pss_cons (ps_for PassesOwn.never rfl (piL K (pe_split (pv 1) pe_str)) (pg_name (i := 3) sc_law_loose.nd rfl (Or.inl rfl))
      (pss_cons (ps_set (i := 2) sc_law_loose.nd rfl (Or.inl rfl) (pe_op op_cat (pv 2) (pe_op op_rep (pe_lst (pa_cons (pe_op op_mulS pe_str (pe_call G_law_taken (hr.mono (by decide)) (by rfl) D_law_taken.mg D_law_taken.kp D_law_taken.b .nil pass0 (pa_cons (pv 0) (pa_cons pe_int pa_nil)))) pa_nil)) (pe_call G_law_taken (hr.mono (by decide)) (by rfl) D_law_taken.mg D_law_taken.kp D_law_taken.b .nil pass0 (pa_cons (pv 0) (pa_cons pe_int pa_nil))))))
      (pss_one (ps_expr (pe_bm PySem.F.plainAttrs_list PySem.F.slot_list_append PySem.F.type_list_append mt_append (pv 2) (pa_cons (pe_op op_add_str (pe_op op_add_str (pe_op op_mulS pe_str (pe_call G_law_taken (hr.mono (by decide)) (by rfl) D_law_taken.mg D_law_taken.kp D_law_taken.b .nil pass0 (pa_cons (pv 0) (pa_cons pe_int pa_nil)))) (pe_joinK K pe_str (pe_split (pv 3) pe_str))) pe_str) pa_nil))))))
      (pss_one (ps_ret (pe_joinK K pe_str (pv 2)))))), ?_⟩
  have s0 := ss_start (N := ["_law_row_here", "_law_text", "_law_found", "_law_line"]) e r g
  refine s_asgL (A := fun l => l = []) (el_lst a_nil) s0 fun ds q W1 H1 hA v1 s1 o1 _ => ?_
  subst hA
  dsimp only
  generalize hL : Txt.split x "\n" = L at hx21 hx14 k
  have lL : (L.map D.str).length = L.length := len_map ..
  refine s_for (io_list (l := L.map .str) (hL ▸ e_split (e_var rfl) e_str nl_nz (by omega))) s1 fun n el W2 H2 hz z2 s2 => ?_
  obtain ⟨hn, rfl⟩ := hz
  rw [lL] at hn
  subst hn
  refine ⟨fun i σ' W' H' => ∃ (fs : List Str) (q : Addr) (a : Sl), Loose (L.take i) fs ∧ Ex K T W2 W' ∧ SS K T P W W H W' H' [.d r0.d, .d (.str x), .own q, a] σ' ∧ Ow K W' H H' q (fs.map .str), ?_, ?_, ?_, ?_⟩
  · exact ⟨[], q, _, Loose.nil, Ex.refl _, s2, o1.step z2.vv⟩
  · rintro i σ' W' H' _ ⟨fs, q, a, _, e1, ss, _⟩
    exact ⟨e1, _, ss⟩
  · rintro i σ' W' H' hi ⟨fs, q, a, hlo, e1, ss, ow⟩
    have hll : L[i].length ≤ 14 := hx14 _ (List.getElem_mem hi)
    have hb := hlo.len fun l hl => hx14 l (List.mem_of_mem_take hl)
    rw [List.length_take] at hb
    refine ⟨_, [.d r0.d, .d (.str x), .own q, .d (.str L[i])], [3], ss, Tg.cast (d' := .str L[i]) ?_ tg_name, fun σ2 W5 H5 z5 s5 => ?_⟩
    · show (L.map D.str).getD i .non = _
      rw [List.getD_eq_getElem?_getD, List.getElem?_map, List.getElem?_eq_getElem hi]
      rfl
    have o5 := ow.step z5.vv
    refine s_catO (n := 2) (A := fun m => ∃ n a : Nat, n ≤ 1 ∧ a ≤ 2 ∧ m = (List.replicate n (spN a)).map D.str) rfl o5 ?_ s5 (fun m hm => ?_) (fun m hm => ?_) fun m q2 W6 H6 hm e6 s6 o6 _ => ?_
    · refine ee_op (ee_lst (A := fun ds => ∃ a : Nat, a ≤ 2 ∧ ds = [.str (spN a)]) (Ea.imp (aaN (A := fun d => ∃ a : Nat, a ≤ 2 ∧ d = .str (spN a)) (ee_op e_str (fun _ _ => e_call (r0, 3) (a_2 (e_var rfl) e_int) ⟨by show (0 : Int) < 3; omega, by show (3 : Int) < _; omega⟩) fun a b ha hb => ?_) a_nil) fun ds hd => ?_) (fun ds hd => ?_) fun ds hd => ?_) (fun _ _ => e_call (r0, 2) (a_2 (e_var rfl) e_int) ⟨by show (0 : Int) < 2; omega, by show (2 : Int) < _; omega⟩) fun a b ha hb => ?_
      · obtain ⟨n, rfl, b1, b2⟩ := hb
        subst ha
        obtain ⟨n, rfl⟩ := Int.eq_ofNat_of_zero_le b1
        have b3 : (n : Int) < 3 := b2
        exact fun W x y W1 H1 e1 e2 rx ry Q q => o_mulS (n := n) (by omega) W x y W1 H1 e1 e2 rx ry Q fun d v W' H2 hd => q d v W' H2 ⟨n, by omega, hd⟩
      · obtain ⟨_, _, rfl, ⟨a, h1, rfl⟩, rfl⟩ := hd
        exact ⟨a, h1, rfl⟩
      · obtain ⟨_, _, rfl⟩ := hd
        show 1 ≤ 100000
        omega
      · obtain ⟨_, _, rfl⟩ := hd
        rfl
      · obtain ⟨_, rfl, a, ha2, rfl⟩ := ha
        obtain ⟨n, rfl, b1, b2⟩ := hb
        have b3 : n < 2 := b2
        rcases (by omega : n = 0 ∨ n = 1) with rfl | rfl
        · exact fun W x y W1 H1 e1 e2 rx ry Q q => o_rep (n := 0) (by show 1 * 0 ≤ 100000; omega) (by omega) rfl W x y W1 H1 e1 e2 rx ry Q fun d v W' H2 hd => q d v W' H2 ⟨_, hd, 0, a, by omega, ha2, rfl⟩
        · exact fun W x y W1 H1 e1 e2 rx ry Q q => o_rep (n := 1) (by show 1 * 1 ≤ 100000; omega) (by omega) rfl W x y W1 H1 e1 e2 rx ry Q fun d v W' H2 hd => q d v W' H2 ⟨_, hd, 1, a, by omega, ha2, rfl⟩
    · obtain ⟨n, a, h1, h2, rfl⟩ := hm
      rw [len_map, len_map, List.length_replicate]
      omega
    · obtain ⟨n, a, h1, h2, rfl⟩ := hm
      rw [← List.map_append]
      exact rowD_strs _
    obtain ⟨n, a2, h1, h2, rfl⟩ := hm
    rw [← List.map_append] at o6
    dsimp only
    refine s_app (n := 2) (A := fun d => ∃ c : Nat, c ≤ 1 ∧ d = .str (spN c ++ Txt.join "   " (Txt.split L[i] " ") ++ " ")) rfl o6 ?_ s6 (by rw [len_map, List.length_append, List.length_replicate]; omega) (fun d hd => ?_) fun d W7 H7 hd z7 xs s7 o7 => ?_
    · have hf := loose_fit hll
      have hlen := fun (c : Nat) (hc : c ≤ 2) => loose_len (c := c) hll hc
      refine ee_op (A := fun d => ∃ c : Nat, c ≤ 1 ∧ d = .str (spN c ++ Txt.join "   " (Txt.split L[i] " "))) (ee_op (A := fun d => ∃ c : Nat, c ≤ 1 ∧ d = .str (spN c)) (ee_op e_str (fun _ _ => e_call (r0, 2) (a_2 (e_var rfl) e_int) ⟨by show (0 : Int) < 2; omega, by show (2 : Int) < _; omega⟩) fun a b ha hb => ?_) (fun _ _ => e_join e_str (e_split (e_var rfl) e_str sp_nz (by omega)) (by omega)) fun a b ha hb => ?_) (fun _ _ => e_str) fun a b ha hb => ?_
      · obtain ⟨n, rfl, b1, b2⟩ := hb
        subst ha
        obtain ⟨n, rfl⟩ := Int.eq_ofNat_of_zero_le b1
        have b3 : (n : Int) < 2 := b2
        exact fun W x y W1 H1 e1 e2 rx ry Q q => o_mulS (n := n) (by omega) W x y W1 H1 e1 e2 rx ry Q fun d v W' H2 hd => q d v W' H2 ⟨n, by omega, hd⟩
      · obtain ⟨c, hc, rfl⟩ := ha
        subst hb
        have q := hlen c (by omega)
        rw [Str.length_append, Str.length_append, one_sp] at q
        exact fun W x y W1 H1 e1 e2 rx ry Q q2 => o_catS (by omega) W x y W1 H1 e1 e2 rx ry Q fun d v W' H2 hd => q2 d v W' H2 ⟨c, hc, hd⟩
      · obtain ⟨c, hc, rfl⟩ := ha
        subst hb
        have q := hlen c (by omega)
        rw [Str.length_append] at q
        exact fun W x y W1 H1 e1 e2 rx ry Q q2 => o_catS (by omega) W x y W1 H1 e1 e2 rx ry Q fun d v W' H2 hd => q2 d v W' H2 ⟨c, hc, hd⟩
    · obtain ⟨c, _, rfl⟩ := hd
      rw [show ∀ (l : List Str) (z : Str), l.map D.str ++ [.str z] = (l ++ [z]).map D.str from fun l z => by rw [List.map_append]; rfl]
      exact rowD_strs _
    · obtain ⟨c, hc, rfl⟩ := hd
      rw [show ∀ (l : List Str) (z : Str), l.map D.str ++ [.str z] = (l ++ [z]).map D.str from fun l z => by rw [List.map_append]; rfl] at o7
      refine ⟨W7, _, q2, _, ?_, e1.trans (z5.up.trans (e6.trans z7.up)), s7, o7⟩
      rw [take_snoc hi]
      exact Loose.step L[i] n a2 c hlo h1 h2 hc
  · rintro σ' W' H' ⟨fs, q, a, hlo, e1, ss, ow⟩
    rw [List.take_length] at hlo
    have hb := hlo.len hx14
    obtain ⟨W7, s7, e7, _⟩ := ss.release (n := 2) ow rfl
    dsimp only
    refine s_ret1 (e_join e_str (e_var rfl) (join_fit hb.2 (by rw [one_nl]; omega))) s7 e fun v W8 H8 z8 rv => k _ _ _ _ ⟨fs, hlo, rfl⟩ z8 rv
end K11
/-! K11ZC: a text with one word bent. -/
namespace K11
open PySem PySem.Spec PyProof.Rows
open L2
section
variable {K : PySem.W.Frag} {T : List (Addr × Str)} {P : List Addr} {B : Hp} {δ δ' : List Sl} {te ta tc : TE} {A : D → Prop} {W W0 H H1 V : Hp} {σ : L2.St} {D0 : Ends}
/-- name = e, an int, where e looks at lists of one's own -/
theorem s_asgV {V : Hp} {n : Nat} (h : E K T P B te δ' A) (R : Rs K T P B V δ' σ) (e : Ex K T V H1) (hs : ∀ d, A d → ∃ i : Int, d = .int i) (s : SS K T P B W0 H W H1 δ σ) (k : ∀ d v H2, A d → Ex K T H1 H2 → SS K T P B W0 H W H2 (δ.set n (.d d)) (σ.set n (some v)) → D0.nx (σ.set n (some v)) H2) : tAsg te (gName n) D0 σ H1 :=
  h σ V R H1 e _ fun d v W' H2 hd z rv => by
    obtain ⟨i, rfl⟩ := hs d hd
    exact k _ v H2 hd z.ac ((s.stay z.ac).set (d := .int i) rv)
end
def bentT (L : List Str) (at' place : Nat) (x : Str) : Str := Txt.join "\n" (L.take at' ++ [Txt.join " " ((Txt.split (L.getD at' Str.empty) " ").set place x)] ++ L.drop (at' + 1))
theorem set_le {l : List Str} {B i : Nat} {x : Str} (h : ∀ y ∈ l, y.length ≤ B) (hx : x.length ≤ B) : ∀ y ∈ l.set i x, y.length ≤ B := fun y hy => by
  rcases mem_set hy with hy | rfl
  · exact h y hy
  · exact hx
theorem cut_to {l : List Str} {i : Nat} (h : i < l.length) : cutD (l.map D.str) none (some (i : Int)) = (l.take i).map D.str := by
  unfold cutD
  have hl : (l.map D.str).length = l.length := len_map ..
  have h1 : HT.sIx (l.map D.str).length 0 none = 0 := rfl
  have h2 : HT.sIx (l.map D.str).length (l.map D.str).length (some (i : Int)) = i := by
    unfold HT.sIx
    simp
    split <;> omega
  rw [h1, h2, List.drop_zero, Nat.sub_zero, List.map_take]
theorem cut_from {l : List Str} {i : Nat} (h : i < l.length) : cutD (l.map D.str) (some ((i : Int) + 1)) none = (l.drop (i + 1)).map D.str := by
  unfold cutD
  have hl : (l.map D.str).length = l.length := len_map ..
  have h1 : HT.sIx (l.map D.str).length (l.map D.str).length none = l.length := by
    rw [← hl]
    rfl
  have h2 : HT.sIx (l.map D.str).length 0 (some ((i : Int) + 1)) = i + 1 := by
    unfold HT.sIx
    simp
    split <;> omega
  rw [h1, h2, List.map_drop, List.take_of_length_le (by rw [List.length_drop, hl]; omega)]
variable {PP : Program} {w : World} {K : PySem.W.Frag} {T : List (Addr × Str)} {P : List Addr} {mg : Str → Option Value} {base : Heap}
theorem sc_law_bent : FnScope ["_law_row_here", "_law_text", "_law_words", "_law_rows", "_law_at", "_law_parts", "_law_place"] ["_law_row_here", "_law_text", "_law_words"] (defScope (topS 53)) := ⟨rfl, rfl, rfl, by decide +kernel, rfl, by decide +kernel, by decide +kernel⟩
abbrev sp_bent (K : PySem.W.Frag) (T : List (Addr × Str)) (P : List Addr) : Sp := spF K T P (ι := Dw × Str × List Str) (fun i => [i.1.d, .str i.2.1, .lst (i.2.2.map .str)]) (fun i => TxtOk i.2.1 ∧ 0 < i.2.2.length ∧ i.2.2.length < 100 ∧ ∀ x ∈ i.2.2, x.length ≤ 14)
  (fun i d => ∃ (a p : Nat) (x : Str), x ∈ i.2.2 ∧ a < (Txt.split i.2.1 "\n").length ∧ p < (Txt.split ((Txt.split i.2.1 "\n").getD a Str.empty) " ").length ∧ d = .tup [.str (bentT (Txt.split i.2.1 "\n") a p x), .int ((a : Int) + 1), .int ((p : Int) + 1)])
theorem ok_bent {f f1 f2 : Addr} {fd fd1 fd2 : FuncData} (TT : Tx K mg) (F : Dfn K mg "_law_bent" 53 ["_law_row_here", "_law_text", "_law_words"] f fd)
    (D_law_taken : Dfn K mg "_law_taken" 43 ["_law_row_here", "_law_many"] f1 fd1) (G_law_taken : FnOk PP w K mg base CX0 1 f1 fd1 ["_law_row_here", "_law_many"] (sp_taken K T P))
    (D_law_pick : Dfn K mg "_law_pick" 44 ["_law_row_here", "_law_things"] f2 fd2) (G_law_pick : FnOk PP w K mg base CX0 2 f2 fd2 ["_law_row_here", "_law_things"] (sp_pick K T P)) :
    FnOk PP w K mg base CX0 3 f fd ["_law_row_here", "_law_text", "_law_words"] (sp_bent K T P) := by
  refine F.ok sc_law_bent (spF_len fun _ => rfl) fun cdv A outer s H vs Q XE hr h => ?_
  obtain ⟨⟨r0, x, ws⟩, W, e, r, g, ⟨⟨hx, hx21, hx14⟩, hw0, hw1, hws⟩, k⟩ := h
  dsimp only at hx hx21 hx14 hw0 hw1 hws k r
  refine ⟨_, (pss_cons (ps_set (i := 3) sc_law_bent.nd rfl (Or.inl rfl) (pe_split (pv 1) pe_str))
      (pss_cons (ps_set (i := 4) sc_law_bent.nd rfl (Or.inl rfl) (pe_call G_law_taken (hr.mono (by decide)) (by rfl) D_law_taken.mg D_law_taken.kp D_law_taken.b .nil pass0 (pa_cons (pv 0) (pa_cons (pe_callB (lenK K) (by rfl) TT.b_len (by decide +kernel) (pa_cons (pv 3) pa_nil)) pa_nil))))
      (pss_cons (ps_set (i := 5) sc_law_bent.nd rfl (Or.inl rfl) (pe_split (pe_ix (ixL K) (pv 3) (pv 4) (fun _ _ => rfl)) pe_str))
      (pss_cons (ps_set (i := 6) sc_law_bent.nd rfl (Or.inl rfl) (pe_call G_law_taken (hr.mono (by decide)) (by rfl) D_law_taken.mg D_law_taken.kp D_law_taken.b .nil pass0 (pa_cons (pv 0) (pa_cons (pe_callB (lenK K) (by rfl) TT.b_len (by decide +kernel) (pa_cons (pv 5) pa_nil)) pa_nil))))
      (pss_cons (ps_asg (pe_call G_law_pick (hr.mono (by decide)) (by rfl) D_law_pick.mg D_law_pick.kp D_law_pick.b .nil pass0 (pa_cons (pv 0) (pa_cons (pv 2) pa_nil))) (pg_sub (pv 5) (pv 6) set_list))
      (pss_one (ps_ret (pe_tup (pa_cons (pe_joinK K pe_str (pe_op op_cat (pe_op op_cat (pe_slice (slLK K) (pv 3) po_none (po_some (pv 4))) (pe_lst (pa_cons (pe_joinK K pe_str (pv 5)) pa_nil))) (pe_slice (slLK K) (pv 3) (po_some (pe_op op_add (pv 4) pe_int)) po_none))) (pa_cons (pe_op op_add (pv 4) pe_int) (pa_cons (pe_op op_add (pv 6) pe_int) pa_nil))))))))))), ?_⟩
  have s0 := ss_start (N := ["_law_row_here", "_law_text", "_law_words", "_law_rows", "_law_at", "_law_parts", "_law_place"]) e r g
  have hpos := PyProof.Rows.split_pos x "\n"
  generalize hL : Txt.split x "\n" = L at hx21 hx14 k hpos
  have lL : (L.map D.str).length = L.length := len_map ..
  refine s_asg1 (d := .lst (L.map .str)) (hL ▸ e_split (e_var rfl) e_str nl_nz (by omega)) s0 fun v1 W1 H1 z1 s1 => ?_
  dsimp only
  refine s_asg (A := fun d => ∃ n : Nat, d = .int (n : Int) ∧ n < L.length) ((e_call (r0, ((L.map D.str).length : Int)) (a_2 (e_var rfl) (e_lenL (e_var rfl))) ⟨by show (0 : Int) < _; rw [lL]; omega, by show (_ : Int) < _; rw [lL]; omega⟩).imp fun d hd => ?_) s1 fun d v2 W2 H2 hd z2 s2 => ?_
  · obtain ⟨n, rfl, b1, b2⟩ := hd
    obtain ⟨n, rfl⟩ := Int.eq_ofNat_of_zero_le b1
    have b3 : (n : Int) < ((L.map D.str).length : Int) := b2
    rw [lL] at b3
    exact ⟨n, rfl, by omega⟩
  obtain ⟨a, rfl, ha⟩ := hd
  dsimp only
  have hla : (L.getD a Str.empty).length ≤ 14 := hx14 _ (getD_mem ha)
  have hps := PyProof.Rows.split_pos (L.getD a Str.empty) " "
  have hple := PyProof.Rows.split_le (L.getD a Str.empty) " "
  have hpl : ∀ y ∈ Txt.split (L.getD a Str.empty) " ", y.length ≤ 14 := fun y hy => Nat.le_trans (PyProof.Rows.part_short hy) hla
  refine s_asgL (A := fun l => l = (Txt.split (L.getD a Str.empty) " ").map .str) (el_split (e_op (e_var rfl) (e_var rfl) (o_ixL (atI_nat ?_))) e_str sp_nz (by omega)) s2 fun ds q W3 H3 hA v3 s3 o3 _ => ?_
  · rw [List.getElem?_map, List.getElem?_eq_getElem ha, List.getD_eq_getElem?_getD, List.getElem?_eq_getElem ha]
    rfl
  subst hA
  dsimp only
  generalize hPt : Txt.split (L.getD a Str.empty) " " = pt at hps hple hpl o3
  have lp : (pt.map D.str).length = pt.length := len_map ..
  have lk := SS.look (n := 5) s3.r s3.y.to o3 rfl
  refine s_asgV (A := fun d => ∃ n : Nat, d = .int (n : Int) ∧ n < pt.length) ((e_call (r0, ((pt.map D.str).length : Int)) (a_2 (e_var rfl) (e_lenL (e_var rfl))) ⟨by show (0 : Int) < _; rw [lp]; omega, by show (_ : Int) < _; rw [lp]; omega⟩).imp fun d hd => ?_) lk (Ex.refl _) (fun d hd => ?_) s3 fun d v4 H4 hd e4 s4 => ?_
  · obtain ⟨n, rfl, b1, b2⟩ := hd
    obtain ⟨n, rfl⟩ := Int.eq_ofNat_of_zero_le b1
    have b3 : (n : Int) < ((pt.map D.str).length : Int) := b2
    rw [lp] at b3
    exact ⟨n, rfl, by omega⟩
  · obtain ⟨n, rfl, _⟩ := hd
    exact ⟨_, rfl⟩
  obtain ⟨p, rfl, hp⟩ := hd
  have o4 := o3.stay e4
  dsimp only
  have lw : (ws.map D.str).length = ws.length := len_map ..
  refine s_setL (n := 5) (j := p) rfl o4 (e_call (r0, ws.map .str) (a_2 (e_var rfl) (e_var rfl)) ⟨by show 0 < (ws.map D.str).length; omega, by show (ws.map D.str).length < _; omega⟩) (e_var rfl) s4 (by rw [lp]; exact hp) (fun d hd => ?_) fun d W5 H5 hd z5 xs s5 o5 => ?_
  · obtain ⟨y, _, rfl⟩ := List.mem_map.mp (show d ∈ ws.map D.str from hd)
    rw [set_map]
    exact rowD_strs _
  obtain ⟨y, hy, rfl⟩ := List.mem_map.mp (show d ∈ ws.map D.str from hd)
  rw [set_map] at o5
  dsimp only
  obtain ⟨W6, s6, e6, _⟩ := s5.release (n := 5) o5 rfl
  have hb1 := set_le (i := p) hpl (hws y hy)
  have hj := join_le (y := " ") hb1
  rw [List.length_set, one_sp] at hj
  have hlines : ∀ z ∈ L.take a ++ [Txt.join " " (pt.set p y)] ++ L.drop (a + 1), z.length ≤ 240 := fun z hz => by
    rcases List.mem_append.mp hz with hz | hz
    · rcases List.mem_append.mp hz with hz | hz
      · have := hx14 z (List.mem_of_mem_take hz)
        omega
      · rw [List.mem_singleton.mp hz]
        have h16 : pt.length ≤ 16 := by omega
        have h17 : pt.length * (14 + 1) ≤ 16 * 15 := Nat.mul_le_mul_right _ h16
        omega
    · have := hx14 z (List.mem_of_mem_drop hz)
      omega
  have hcount : (L.take a ++ [Txt.join " " (pt.set p y)] ++ L.drop (a + 1)).length ≤ 22 := by
    rw [List.length_append, List.length_append, List.length_take, List.length_drop]
    show min a L.length + 1 + (L.length - (a + 1)) ≤ 22
    omega
  refine s_ret1 (d := .tup [.str (bentT L a p y), .int ((a : Int) + 1), .int ((p : Int) + 1)]) ?_ s6 e fun v W8 H8 z8 rv => k _ _ _ _ ⟨a, p, y, hy, ha, by rw [hPt]; exact hp, rfl⟩ z8 rv
  refine e_tup (a_3 ?_ (e_op (e_var rfl) e_int o_add) (e_op (e_var rfl) e_int o_add)) (hl := by show 3 ≤ 100000; omega)
  unfold bentT
  rw [hPt]
  refine e_join e_str ?_ (join_fit hlines (by rw [one_nl]; omega))
  have hcat : ((L.take a).map D.str) ++ [D.str (Txt.join " " (pt.set p y))] = ((L.take a) ++ [Txt.join " " (pt.set p y)]).map D.str := by
    rw [List.map_append]
    rfl
  rw [List.map_append, List.map_append]
  refine e_op (e_op (E1.is (e_slL (e_var rfl) p_none (p_some (e_var rfl)) ?_) ?_) (e_lst (a_1 (e_join e_str (e_var rfl) (join_fit hb1 ?_))) (hr := rfl) (hl := by show 1 ≤ 100000; omega)) (o_cat ?_ ?_)) (E1.is (e_slL (e_var rfl) (p_some (e_op (e_var rfl) e_int o_add)) p_none ?_) ?_) (o_cat ?_ ?_)
  · rw [cut_to ha]
    exact rowD_strs _
  · rw [cut_to ha]
  · rw [List.length_set, one_sp]
    have h16 : pt.length ≤ 16 := by omega
    have h17 : pt.length * (14 + 1) ≤ 16 * 15 := Nat.mul_le_mul_right _ h16
    omega
  · rw [len_map, List.length_take]
    show min a L.length + 1 ≤ 100000
    omega
  · rw [hcat]
    exact rowD_strs _
  · rw [cut_from ha]
    exact rowD_strs _
  · rw [cut_from ha]
  · rw [hcat, len_map, len_map, List.length_append, List.length_take, List.length_drop]
    show min a L.length + 1 + (L.length - (a + 1)) ≤ 100000
    omega
  · rw [hcat, ← List.map_append]
    exact rowD_strs _
end K11
/-! K11ZD: is_undone. -/
namespace K11
open PySem PySem.Spec PyProof.Rows
open L2
section
variable {K : PySem.W.Frag} {T : List (Addr × Str)} {P : List Addr} {B : Hp} {δ : List Sl} {ta : TE} {A : Nat → Prop}
theorem c_lenL {l : List D} : Rt K T (fun xs H Q => ∃ x n, xs = [x] ∧ LenV K x H n ∧ Q (.int n) H) [.lst l] (fun d => d = .int (l.length : Int)) := by
  intro W vs W1 H1 _ e rv Q q
  obtain ⟨v, rfl, p, xs, rfl, hs, g, hl⟩ := rpl_1 rv
  exact ⟨_, xs.length, rfl, .inl ⟨xs, SqL.of (e.keep _ _ hs g), rfl⟩, q _ _ _ H1 rfl (Vw.same e) (by rw [rpl_len hl]; exact rp_i)⟩
theorem ee_lenL {n : Nat} (h : E K T P B ta δ (fun d => ∃ l, d = .lst l ∧ l.length = n)) : E1 K T P B (tCB (fun xs H Q => ∃ x n, xs = [x] ∧ LenV K x H n ∧ Q (.int n) H) (tCons ta tNil)) δ (.int (n : Int)) := by
  refine ee_cb (aa_cons h fun a ha => a_nil) fun ds hd => ?_
  obtain ⟨a, r, rfl, ⟨l, rfl, hl⟩, rfl⟩ := hd
  exact fun W vs W1 H1 e1 e2 rv Q q => c_lenL W vs W1 H1 e1 e2 rv Q fun d v W' H2 hd => q d v W' H2 (by rw [hd, hl])
end
variable {PP : Program} {w : World} {K : PySem.W.Frag} {T : List (Addr × Str)} {P : List Addr} {mg : Str → Option Value} {base : Heap}
theorem sc_is_undone : FnScope ["prime", "table"] ["prime", "table"] (defScope (topS 38)) := ⟨rfl, rfl, rfl, by decide +kernel, rfl, by decide +kernel, by decide +kernel⟩
def undone (p : Int) (rs : List (List Int)) : Bool := decide (rs.length = (rs.getD 0 []).length) && decide ((redR p rs).length = rs.length)
abbrev sp_undone (K : PySem.W.Frag) (T : List (Addr × Str)) (P : List Addr) : Sp := spF K T P (ι := Int × List (List Int)) (fun i => [.int i.1, rowsT i.2])
  (fun i => isPr i.1 ∧ 1 ≤ i.2.length ∧ i.2.length ≤ 100 ∧ ∃ m, 1 ≤ m ∧ m ≤ 100 ∧ ∀ r ∈ i.2, RowOk i.1 m r) (fun i d => d = .bl (undone i.1 i.2))
theorem ok_undone {f f1 : Addr} {fd fd1 : FuncData} (TT : Tx K mg) (F : Dfn K mg "is_undone" 38 ["prime", "table"] f fd)
    (D_reduced : Dfn K mg "reduced" 14 ["prime", "rows"] f1 fd1) (G_reduced : FnOk PP w K mg base CX0 2 f1 fd1 ["prime", "rows"] (sp_reduced K T P)) :
    FnOk PP w K mg base CX0 3 f fd ["prime", "table"] (sp_undone K T P) := by
  refine F.ok sc_is_undone (spF_len fun _ => rfl) fun cdv A outer s H vs Q XE hr h => ?_
  obtain ⟨⟨p, rs⟩, W, e, r, g, ⟨hp, h1, h2, hm⟩, k⟩ := h
  dsimp only at hp h1 h2 hm k r
  refine ⟨_, (pss_one (ps_ret (pe_and (pe_cmpR op_eq (pe_callB (lenK K) (by rfl) TT.b_len (by decide +kernel) (pa_cons (pv 1) pa_nil)) (pe_callB (lenK K) (by rfl) TT.b_len (by decide +kernel) (pa_cons (pe_ix (ixT K) (pv 1) pe_int (fun _ _ => rfl)) pa_nil)) (nomark _)) (pe_one (pe_cmpR op_eq (pe_callB (lenK K) (by rfl) TT.b_len (by decide +kernel) (pa_cons (pe_call G_reduced (hr.mono (by decide)) (by rfl) D_reduced.mg D_reduced.kp D_reduced.b .nil pass0 (pa_cons (pv 0) (pa_cons (pv 1) pa_nil))) pa_nil)) (pe_callB (lenK K) (by rfl) TT.b_len (by decide +kernel) (pa_cons (pv 1) pa_nil)) (nomark _)))))), ?_⟩
  have s0 := ss_start (N := ["prime", "table"]) e r g
  have lr : (rs.map rowT).length = rs.length := len_map ..
  refine s_ret1 (d := .bl (undone p rs)) ?_ s0 e fun v W' H2 z rv => k _ _ _ _ rfl z rv
  refine E1.is (e_andV (e_op (e_lenT (e_var rfl)) (e_lenT (l := (rs.getD 0 []).map .int) (e_op (e_var rfl) e_int (o_ixT ?_))) o_eqI) (fun _ => e_op (ee_lenL (n := (redR p rs).length) (e_call (p, rs) (a_2 (e_var rfl) (e_var rfl)) ⟨hp, h2, hm⟩)) (e_lenT (e_var rfl)) o_eqI)) ?_
  · have h0 : 0 < rs.length := by omega
    show atI (rs.map rowT) ((0 : Nat) : Int) = some (rowT (rs.getD 0 []))
    exact atI_nat (by rw [List.getElem?_map, List.getElem?_eq_getElem h0, List.getD_eq_getElem?_getD, List.getElem?_eq_getElem h0]; rfl)
  · unfold undone
    rw [lr, len_map]
    have c : ∀ a b : Nat, decide ((a : Int) = (b : Int)) = decide (a = b) := fun a b => decide_eq_decide.mpr (by omega)
    rw [c, c]
end K11
/-! K11ZE: instructions looked at. -/
namespace K11
open PySem PySem.Spec PyProof.Rows
open L2
theorem pe_globI {X : Cx} {x : Str} {i : Int} {pos : Pos} (hg : Gl X x) (hm : ∃ t, X.mg x = some (.int i t)) (hd : (x == ("__debug__" : Str)) = false := by decide) : PE X (.Name x pos) (tC (.int i)) := by
  obtain ⟨t, h⟩ := hm
  exact pe_glob (v := .int i) hg h ⟨t, rfl⟩ hd
theorem pe_globS {X : Cx} {x : Str} {i : Str} {pos : Pos} (hg : Gl X x) (hm : ∃ t, X.mg x = some (.str i t)) (hd : (x == ("__debug__" : Str)) = false := by decide) : PE X (.Name x pos) (tC (.str i)) := by
  obtain ⟨t, h⟩ := hm
  exact pe_glob (v := .str i) hg h ⟨t, rfl⟩ hd
/-- the constants of the text -/
structure Gx (K : PySem.W.Frag) (mg : Str → Option Value) (aP aS aW : Addr) : Prop where
  g_PRIMES : mg "PRIMES" = some (.ref aP)
  g_SIGHTS : mg "SIGHTS" = some (.ref aS)
  g_WRITES : mg "WRITES" = some (.ref aW)
  d_PRIMES : ∀ W, Rp K W (.tup [.int 2, .int 3, .int 5, .int 7]) (.ref aP)
  d_SIGHTS : ∀ W, Rp K W (.tup [.str "get", .str "plus", .str "minus"]) (.ref aS)
  d_WRITES : ∀ W, Rp K W (.tup [.str "add", .str "take"]) (.ref aW)
  g_MOST_CELLS : ∃ t, mg "MOST_CELLS" = some (.int 4 t)
  g_MOST_PLUGS : ∃ t, mg "MOST_PLUGS" = some (.int 4 t)
  g_MOST_STILL : ∃ t, mg "MOST_STILL" = some (.int 20 t)
  g_MOST_KEPT : ∃ t, mg "MOST_KEPT" = some (.int 6000 t)
  g_FIGURES : ∃ t, mg "FIGURES" = some (.str "0123456789" t)
def isPut : O1 → Bool
  | .put => true
  | _ => false
theorem am_put1 (o : O1) : decide (o.nm = ("put" : Str)) = isPut o := by cases o <;> decide +kernel
theorem am_say0 (o : O0) : (amS o.nm ["say", "ask", "stop"] || decide (o.nm = ("wait" : Str))) = true := by cases o <;> decide +kernel
variable {PP : Program} {w : World} {K : PySem.W.Frag} {T : List (Addr × Str)} {P : List Addr} {mg : Str → Option Value} {base : Heap} {aP aS aW : Addr}
theorem sc_is_instruction : FnScope ["value", "prime", "writes", "sights", "many", "is_kept"] ["value", "prime", "writes", "sights", "many", "is_kept"] (defScope (topS 25)) := ⟨rfl, rfl, rfl, by decide +kernel, rfl, by decide +kernel, by decide +kernel⟩
abbrev sp_isins (K : PySem.W.Frag) (T : List (Addr × Str)) (P : List Addr) : Sp := spF K T P (ι := Ins × Nat) (fun i => [i.1.d, .int 7, .int 4, .int 4, .int (i.2 : Int), .bl true]) (fun i => InsOk i.2 i.1) (fun i d => d = .bl true)
theorem ok_isins {f f1 : Addr} {fd fd1 : FuncData} (TT : Tx K mg) (GG : Gx K mg aP aS aW) (F : Dfn K mg "is_instruction" 25 ["value", "prime", "writes", "sights", "many", "is_kept"] f fd)
    (D_is_number : Dfn K mg "is_number" 8 ["value", "low", "high"] f1 fd1) (G_is_number : FnOk PP w K mg base CX0 1 f1 fd1 ["value", "low", "high"] (sp_is_number K T P)) :
    FnOk PP w K mg base CX0 2 f fd ["value", "prime", "writes", "sights", "many", "is_kept"] (sp_isins K T P) := by
  refine F.ok sc_is_instruction (spF_len fun _ => rfl) fun cdv A outer s H vs Q XE hr h => ?_
  obtain ⟨⟨i, L⟩, W, e, r, g, hi, k⟩ := h
  dsimp only at hi k r
  refine ⟨_, (pss_cons (ps_if (PW.pt (pw_or (pt_not (pt_val (pe_callB (isiK K) (by rfl) TT.b_isinstance (by decide +kernel) (pa_cons (pv 0) (pa_cons (pe_bltn (v := .ty "tuple") (u := .type "tuple") (by rfl) TT.b_tuple (by decide +kernel) rfl) pa_nil))))) (pw_or (pt_not (pt_chain op_le op_le pe_int (pe_callB (lenK K) (by rfl) TT.b_len (by decide +kernel) (pa_cons (pv 0) pa_nil)) pe_int)) (pw_or1 (pt_not (pt_val (pe_callB (isiK K) (by rfl) TT.b_isinstance (by decide +kernel) (pa_cons (pe_ix (ixT K) (pv 0) pe_int (fun _ _ => rfl)) (pa_cons (pe_bltn (v := .ty "str") (u := .type "str") (by rfl) TT.b_str (by decide +kernel) rfl) pa_nil)))))))))
      (pss_one (ps_ret pe_bl))
      pss_nil)
      (pss_cons (ps_if (pt_cmpR op_eq (pe_callB (lenK K) (by rfl) TT.b_len (by decide +kernel) (pa_cons (pv 0) pa_nil)) pe_int (nomark _))
      (pss_one (ps_ret (pe_or (pe_cmpR (inK K) (pe_ix (ixT K) (pv 0) pe_int (fun _ _ => rfl)) (pe_tup (pa_cons pe_str (pa_cons pe_str (pa_cons pe_str pa_nil)))) (by rfl)) (pe_one (pe_and (pv 5) (pe_one (pe_cmpR op_eq (pe_ix (ixT K) (pv 0) pe_int (fun _ _ => rfl)) pe_str (nomark _))))))))
      pss_nil)
      (pss_cons (ps_if (pt_cmpR (inK K) (pe_ix (ixT K) (pv 0) pe_int (fun _ _ => rfl)) (pe_glob (v := .ref aS) (by rfl) GG.g_SIGHTS rfl) (by rfl))
      (pss_one (ps_ret (pe_call G_is_number (hr.mono (by decide)) (by rfl) D_is_number.mg D_is_number.kp D_is_number.b .nil pass0 (pa_cons (pe_ix (ixT K) (pv 0) pe_int (fun _ _ => rfl)) (pa_cons pe_int (pa_cons (pe_op op_sub (pv 3) pe_int) pa_nil))))))
      pss_nil)
      (pss_cons (ps_if (pt_cmpR (inK K) (pe_ix (ixT K) (pv 0) pe_int (fun _ _ => rfl)) (pe_glob (v := .ref aW) (by rfl) GG.g_WRITES rfl) (by rfl))
      (pss_one (ps_ret (pe_call G_is_number (hr.mono (by decide)) (by rfl) D_is_number.mg D_is_number.kp D_is_number.b .nil pass0 (pa_cons (pe_ix (ixT K) (pv 0) pe_int (fun _ _ => rfl)) (pa_cons pe_int (pa_cons (pe_op op_sub (pv 2) pe_int) pa_nil))))))
      pss_nil)
      (pss_cons (ps_if (pt_cmpR op_eq (pe_ix (ixT K) (pv 0) pe_int (fun _ _ => rfl)) pe_str (nomark _))
      (pss_one (ps_ret (pe_call G_is_number (hr.mono (by decide)) (by rfl) D_is_number.mg D_is_number.kp D_is_number.b .nil pass0 (pa_cons (pe_ix (ixT K) (pv 0) pe_int (fun _ _ => rfl)) (pa_cons pe_int (pa_cons (pe_op op_sub (pv 1) pe_int) pa_nil))))))
      pss_nil)
      (pss_one (ps_ret (pe_and (pe_cmpR (inK K) (pe_ix (ixT K) (pv 0) pe_int (fun _ _ => rfl)) (pe_tup (pa_cons pe_str (pa_cons pe_str pa_nil))) (by rfl)) (pe_one (pe_call G_is_number (hr.mono (by decide)) (by rfl) D_is_number.mg D_is_number.kp D_is_number.b .nil pass0 (pa_cons (pe_ix (ixT K) (pv 0) pe_int (fun _ _ => rfl)) (pa_cons pe_int (pa_cons (pv 4) pa_nil))))))))))))), ?_⟩
  have s0 := ss_start (N := ["value", "prime", "writes", "sights", "many", "is_kept"]) e r g
  cases i with
  | z o =>
    have hv : ∀ {B : Hp}, E1 K T P B (tVar 0) [.d (Ins.z o).d, .d (.int 7), .d (.int 4), .d (.int 4), .d (.int (L : Int)), .d (.bl true)] (.tup [.str o.nm]) := fun {B} => e_var rfl
    refine s_if1 (k := false) (Et1.is (t_or1 (k := false) (l := false) (t_not1 (t_b (e_isi hv (kT _)))) fun _ => t_or1 (k := false) (l := false) (t_not1 (t_t (E1.is (e_chain e_int (e_lenT hv) o_le (fun _ => e_int) fun _ => o_le) rfl))) fun _ => t_not1 (t_b (e_isi (d := .str o.nm) (e_op hv e_int (o_ixT rfl)) (kS _)))) rfl) s0 (fun hb => absurd hb (by decide)) fun _ H1 e1 s1 => ?_
    try unfold tNext
    dsimp only
    refine s_if1 (k := true) (Et1.is (t_t (e_op (e_lenT hv) e_int o_eqI)) rfl) s1 (fun _ H2 e2 s2 => ?_) (fun hb => absurd hb (by decide))
    refine s_ret1 (d := .bl true) ?_ s2 e fun v W' H2 z rv => k _ _ _ _ rfl z rv
    refine E1.is (e_orV (l := decide (o.nm = ("wait" : Str))) (e_op (e_op hv e_int (o_ixT rfl)) (e_tup (a_3 e_str e_str e_str)) (o_inST ["say", "ask", "stop"])) fun _ => E1.is (e_andV (e_var rfl) fun _ => e_op (e_op hv e_int (o_ixT rfl)) e_str o_eqS) rfl) ?_
    rw [am_say0]
  | u o n =>
    obtain ⟨n0, n1⟩ := hi
    have hv : ∀ {B : Hp}, E1 K T P B (tVar 0) [.d (Ins.u o n).d, .d (.int 7), .d (.int 4), .d (.int 4), .d (.int (L : Int)), .d (.bl true)] (.tup [.str o.nm, .int n]) := fun {B} => e_var rfl
    have hw : ∀ {B : Hp}, E1 K T P B (tOp (rIxT K) (tVar 0) (tC (.int 0))) [.d (Ins.u o n).d, .d (.int 7), .d (.int 4), .d (.int 4), .d (.int (L : Int)), .d (.bl true)] (.str o.nm) := fun {B} => e_op hv e_int (o_ixT rfl)
    have hn : ∀ {B : Hp}, E1 K T P B (tOp (rIxT K) (tVar 0) (tC (.int 1))) [.d (Ins.u o n).d, .d (.int 7), .d (.int 4), .d (.int 4), .d (.int (L : Int)), .d (.bl true)] (.int n) := fun {B} => e_op hv e_int (o_ixT rfl)
    have num : ∀ hi : Int, n ≤ hi → D.bl (isNum (.int n) 0 hi) = .bl true := fun hi h => by
      show D.bl (decide (0 ≤ n) && decide (n ≤ hi)) = _
      rw [decide_eq_true n0, decide_eq_true h]
      rfl
    refine s_if1 (k := false) (Et1.is (t_or1 (k := false) (l := false) (t_not1 (t_b (e_isi hv (kT _)))) fun _ => t_or1 (k := false) (l := false) (t_not1 (t_t (E1.is (e_chain e_int (e_lenT hv) o_le (fun _ => e_int) fun _ => o_le) rfl))) fun _ => t_not1 (t_b (e_isi hw (kS _)))) rfl) s0 (fun hb => absurd hb (by decide)) fun _ H1 e1 s1 => ?_
    try unfold tNext
    dsimp only
    refine s_if1 (k := false) (Et1.is (t_t (e_op (e_lenT hv) e_int o_eqI)) rfl) s1 (fun hb => absurd hb (by decide)) (fun _ H2 e2 s2 => ?_)
    try unfold tNext
    dsimp only
    refine s_if1 (Et1.is (t_t (e_op hw (e_c GG.d_SIGHTS) (o_inST ["get", "plus", "minus"]))) (am_see1 o)) s2 (fun hb H3 e3 s3 => ?_) (fun hb H3 e3 s3 => ?_)
    · refine s_ret1 (d := .bl true) (E1.is (e_call (.int n, 0, (4 : Int) - 1) (a_3 hn e_int (e_op (e_var rfl) e_int o_sub)) trivial) (num _ ?_)) s3 e fun v W' H2 z rv => k _ _ _ _ rfl z rv
      have ht : o.top L = 3 := by cases o <;> first | rfl | cases hb
      rw [ht] at n1
      exact n1
    try unfold tNext
    dsimp only
    refine s_if1 (Et1.is (t_t (e_op hw (e_c GG.d_WRITES) (o_inST ["add", "take"]))) (am_wr1 o)) s3 (fun hb2 H4 e4 s4 => ?_) (fun hb2 H4 e4 s4 => ?_)
    · refine s_ret1 (d := .bl true) (E1.is (e_call (.int n, 0, (4 : Int) - 1) (a_3 hn e_int (e_op (e_var rfl) e_int o_sub)) trivial) (num _ ?_)) s4 e fun v W' H2 z rv => k _ _ _ _ rfl z rv
      have ht : o.top L = 3 := by cases o <;> first | rfl | cases hb2
      rw [ht] at n1
      exact n1
    try unfold tNext
    dsimp only
    refine s_if1 (Et1.is (t_t (e_op hw e_str o_eqS)) (am_put1 o)) s4 (fun hb3 H5 e5 s5 => ?_) (fun hb3 H5 e5 s5 => ?_)
    · refine s_ret1 (d := .bl true) (E1.is (e_call (.int n, 0, (7 : Int) - 1) (a_3 hn e_int (e_op (e_var rfl) e_int o_sub)) trivial) (num _ ?_)) s5 e fun v W' H2 z rv => k _ _ _ _ rfl z rv
      have ht : o.top L = 6 := by cases o <;> first | rfl | cases hb3
      rw [ht] at n1
      exact n1
    try unfold tNext
    dsimp only
    refine s_ret1 (d := .bl true) ?_ s5 e fun v W' H2 z rv => k _ _ _ _ rfl z rv
    have ht : o.top L = (L : Int) := by cases o <;> first | rfl | exact absurd hb (by decide) | exact absurd hb2 (by decide) | exact absurd hb3 (by decide)
    have hj : isJmp o = true := by cases o <;> first | rfl | exact absurd hb (by decide) | exact absurd hb2 (by decide) | exact absurd hb3 (by decide)
    rw [ht] at n1
    refine E1.is (e_andV (l := true) (e_op hw (e_tup (a_2 e_str e_str)) (o_inST ["zero", "go"])) fun _ => E1.is (e_call (.int n, 0, (L : Int)) (a_3 hn e_int (e_var rfl)) trivial) (num _ n1)) ?_
    rw [am_jmp1, hj]
    rfl
end K11
/-! K11ZF: need_rows, write_program. -/
namespace K11
open PySem PySem.Spec PyProof.Rows
open L2
def rStrA : List V → Hp → VK → Prop := fun xs H Q => (∃ i : Int, xs = [.int i] ∧ i.natAbs.log2 < 1920 ∧ Q (.str (toString i)) H) ∨ (∃ a : Str, xs = [.str a] ∧ Q (.str a) H)
theorem call_strA {X : Cx} : CallR X (.type "str") rStrA := by
  intro pins s σ H vs us Q I r h
  rcases h with h | h
  · exact call_str_int pins s σ H vs us Q I r h
  · exact SkE.call_str_str pins s σ H vs us Q I r h
/-- a part of an instruction, as a text -/
def ptS : D → Str
  | .int i => numS i
  | .str a => a
  | _ => Str.empty
section
variable {K : PySem.W.Frag} {T : List (Addr × Str)}
theorem c_strAS {a : Str} : Rt K T rStrA [.str a] (fun d => d = .str a) := by
  intro W vs W1 H1 _ e rv Q q
  obtain ⟨v, rfl, r⟩ := rpl_1 rv
  cases rp_str r
  exact .inr ⟨a, rfl, q _ _ _ H1 rfl (Vw.same e) rp_s⟩
theorem c_strAI {i : Int} (h : i.natAbs.log2 < 1920) : Rt K T rStrA [.int i] (fun d => d = .str (numS i)) := by
  intro W vs W1 H1 _ e rv Q q
  obtain ⟨v, rfl, r⟩ := rpl_1 rv
  cases (show v = .int i from r)
  exact .inl ⟨i, rfl, h, q _ _ _ H1 rfl (Vw.same e) rp_s⟩
end
theorem numS_4 : ∀ n : Nat, n < 6001 → (numS (n : Int)).length ≤ 4 := by decide +kernel
theorem nm0_le (o : O0) : o.nm.length ≤ 5 := by cases o <;> decide +kernel
theorem nm1_le (o : O1) : o.nm.length ≤ 5 := by cases o <;> decide +kernel
theorem top_le (o : O1) {L : Nat} (h : L ≤ 6000) : o.top L ≤ 6000 := by
  cases o <;> simp only [O1.top] <;> omega
def insWs : Ins → List Str
  | .z o => [o.nm]
  | .u o n => [o.nm, numS n]
def insTxt (i : Ins) : Str := Txt.join " " (insWs i)
theorem insWs_le {L : Nat} (h : L ≤ 6000) {i : Ins} (hi : InsOk L i) : (∀ x ∈ insWs i, x.length ≤ 5) ∧ (insWs i).length ≤ 2 := by
  cases i with
  | z o => exact ⟨fun x hx => by rw [List.mem_singleton.mp hx]; exact nm0_le o, by show 1 ≤ 2; omega⟩
  | u o n =>
    obtain ⟨n0, n1⟩ := hi
    have n2 := top_le o h
    refine ⟨fun x hx => ?_, Nat.le_refl _⟩
    have hx2 : x ∈ [o.nm, numS n] := hx
    simp only [List.mem_cons, List.not_mem_nil, or_false] at hx2
    rcases hx2 with rfl | rfl
    · exact nm1_le o
    · obtain ⟨m, rfl⟩ := Int.eq_ofNat_of_zero_le n0
      have := numS_4 m (by omega)
      exact Nat.le_trans this (by omega)
theorem insTxt_le {L : Nat} (h : L ≤ 6000) {i : Ins} (hi : InsOk L i) : (insTxt i).length ≤ 12 := by
  obtain ⟨h1, h2⟩ := insWs_le h hi
  have h3 := join_le (y := " ") h1
  rw [one_sp] at h3
  unfold insTxt
  omega
def progText (l : List Ins) : Str := Txt.join "\n" (l.map insTxt)
def Ins.ps : Ins → List D
  | .z o => [.str o.nm]
  | .u o n => [.str o.nm, .int n]
theorem ins_ps (i : Ins) : i.d = .tup i.ps := by cases i <;> rfl
variable {PP : Program} {w : World} {K : PySem.W.Frag} {T : List (Addr × Str)} {P : List Addr} {mg : Str → Option Value} {base : Heap} {aP aS aW : Addr}
theorem sc_need_rows : FnScope ["value", "prime", "writes", "sights", "is_kept", "index", "instruction"] ["value", "prime", "writes", "sights", "is_kept"] (defScope (topS 26)) := ⟨rfl, rfl, rfl, by decide +kernel, rfl, by decide +kernel, by decide +kernel⟩
abbrev sp_needr (K : PySem.W.Frag) (T : List (Addr × Str)) (P : List Addr) : Sp := spF K T P (ι := List Ins) (fun i => [progT i, .int 7, .int 4, .int 4, .bl true]) (fun i => 1 ≤ i.length ∧ i.length ≤ 6000 ∧ ProgOk i) (fun i d => d = .non)
theorem ok_needr {f f1 : Addr} {fd fd1 : FuncData} (TT : Tx K mg) (GG : Gx K mg aP aS aW) (F : Dfn K mg "need_rows" 26 ["value", "prime", "writes", "sights", "is_kept"] f fd)
    (D_is_instruction : Dfn K mg "is_instruction" 25 ["value", "prime", "writes", "sights", "many", "is_kept"] f1 fd1) (G_is_instruction : FnOk PP w K mg base CX0 2 f1 fd1 ["value", "prime", "writes", "sights", "many", "is_kept"] (sp_isins K T P)) :
    FnOk PP w K mg base CX0 3 f fd ["value", "prime", "writes", "sights", "is_kept"] (sp_needr K T P) := by
  refine F.ok sc_need_rows (spF_len fun _ => rfl) fun cdv A outer s H vs Q XE hr h => ?_
  obtain ⟨l, W, e, r, g, ⟨h1, h2, hok⟩, k⟩ := h
  dsimp only at h1 h2 hok k r
  refine ⟨_, (pss_cons (ps_if (PW.pt (pw_or (pt_not (pt_val (pe_callB (isiK K) (by rfl) TT.b_isinstance (by decide +kernel) (pa_cons (pv 0) (pa_cons (pe_bltn (v := .ty "tuple") (u := .type "tuple") (by rfl) TT.b_tuple (by decide +kernel) rfl) pa_nil))))) (pw_or1 (pt_not (pt_chain op_le op_le pe_int (pe_callB (lenK K) (by rfl) TT.b_len (by decide +kernel) (pa_cons (pv 0) pa_nil)) (pe_ifExp (pt_val (pv 4)) (pe_globI (by rfl) GG.g_MOST_KEPT) (pe_globI (by rfl) GG.g_MOST_STILL)))))))
      (pss_one ps_never)
      pss_nil)
      (pss_one (ps_for PassesOwn.never rfl (pi_enumT (by rfl) TT.b_enumerate (pa_cons (pv 0) pa_nil)) (pg_tup (by rfl) (pgs_cons (pg_name (i := 5) sc_need_rows.nd rfl (Or.inl rfl)) (pgs_cons (pg_name (i := 6) sc_need_rows.nd rfl (Or.inl rfl)) pgs_nil)))
      (pss_one (ps_if (pt_not (pt_val (pe_call G_is_instruction (hr.mono (by decide)) (by rfl) D_is_instruction.mg D_is_instruction.kp D_is_instruction.b .nil pass0 (pa_cons (pv 6) (pa_cons (pv 1) (pa_cons (pv 2) (pa_cons (pv 3) (pa_cons (pe_callB (lenK K) (by rfl) TT.b_len (by decide +kernel) (pa_cons (pv 0) pa_nil)) (pa_cons (pv 4) pa_nil)))))))))
      (pss_one ps_never)
      pss_nil))))), ?_⟩
  have s0 := ss_start (N := ["value", "prime", "writes", "sights", "is_kept", "index", "instruction"]) e r g
  have ll : (l.map Ins.d).length = l.length := len_map ..
  refine s_if1 (k := false) (Et1.is (t_or1 (k := false) (l := false) (t_not1 (t_b (e_isi (d := progT l) (e_var rfl) (kT _)))) fun _ => t_not1 (t_t (k := true) (E1.is (e_chain e_int (e_lenT (l := l.map Ins.d) (e_var rfl)) o_le (fun _ => e_if (C' := fun b => b = true) (t_b (e_var rfl)) (fun _ => e_c (d := .int 6000) fun W => rfl) fun z => absurd z Bool.false_ne_true) fun _ => o_le) ?_))) rfl) s0 (fun hb => absurd hb (by decide)) fun _ H1 e1 s1 => ?_
  · rw [ll, decide_eq_true (by omega : (1 : Int) ≤ (l.length : Int)), decide_eq_true (by omega : (l.length : Int) ≤ 6000)]
    rfl
  try unfold tNext
  dsimp only
  refine s_for (io_enumT (l := l.map Ins.d) (a_1 (e_var rfl))) s1 fun n el W2 H2 hz z2 s2 => ?_
  obtain ⟨hn, rfl⟩ := hz
  rw [ll] at hn
  subst hn
  refine ⟨fun i σ' W' H' => ∃ a b, Ex K T W2 W' ∧ SS K T P W W H W' H' [.d (progT l), .d (.int 7), .d (.int 4), .d (.int 4), .d (.bl true), a, b] σ', ?_, ?_, ?_, ?_⟩
  · exact ⟨_, _, Ex.refl _, s2⟩
  · rintro i σ' W' H' _ ⟨a, b, e1, ss⟩
    exact ⟨e1, _, ss⟩
  · rintro i σ' W' H' hi ⟨a, b, e1, ss⟩
    have hio : InsOk l.length l[i] := hok _ (List.getElem_mem hi)
    have hge := getD_ins hi
    generalize l[i] = one at hio hge
    refine ⟨_, [.d (progT l), .d (.int 7), .d (.int 4), .d (.int 4), .d (.bl true), .d (.int (i : Int)), .d one.d], [5, 6], ss, Tg.cast (d' := .tup [.int (i : Int), one.d]) (by dsimp only; rw [hge]) tg_pair, fun σ2 W5 H5 z5 s5 => ?_⟩
    refine s_if1 (k := false) (t_not1 (k := true) (t_b (e_call (one, l.length) (a_cons (e_var rfl) (a_cons (e_var rfl) (a_cons (e_var rfl) (a_3 (e_var rfl) (ll ▸ e_lenT (l := l.map Ins.d) (e_var rfl)) (e_var rfl))))) hio))) s5 (fun hb => absurd hb (by decide)) fun _ H6 e6 s6 => ?_
    try unfold tNext
    exact ⟨W5, _, _, e1.trans z5.up, s6⟩
  · rintro σ' W' H' ⟨a, b, e1, ss⟩
    exact s_end ss e fun v W' H2 z rv => k _ _ _ _ rfl z rv
theorem sc_write_program : FnScope ["program", "instruction", "part"] ["program"] (defScope (topS 39)) := ⟨rfl, rfl, rfl, by decide +kernel, rfl, by decide +kernel, by decide +kernel⟩
abbrev sp_wprog (K : PySem.W.Frag) (T : List (Addr × Str)) (P : List Addr) : Sp := spF K T P (ι := List Ins) (fun i => [progT i]) (fun i => 1 ≤ i.length ∧ i.length ≤ 6000 ∧ ProgOk i) (fun i d => d = .str (progText i))
theorem ok_wprog {f f1 : Addr} {fd fd1 : FuncData} (TT : Tx K mg) (F : Dfn K mg "write_program" 39 ["program"] f fd)
    (D_need_rows : Dfn K mg "need_rows" 26 ["value", "prime", "writes", "sights", "is_kept"] f1 fd1) (G_need_rows : FnOk PP w K mg base CX0 3 f1 fd1 ["value", "prime", "writes", "sights", "is_kept"] (sp_needr K T P)) :
    FnOk PP w K mg base CX0 4 f fd ["program"] (sp_wprog K T P) := by
  refine F.ok sc_write_program (spF_len fun _ => rfl) fun cdv A outer s H vs Q XE hr h => ?_
  obtain ⟨l, W, e, r, g, ⟨h1, h2, hok⟩, k⟩ := h
  dsimp only at h1 h2 hok k r
  refine ⟨_, (pss_cons (ps_expr (pe_call G_need_rows (hr.mono (by decide)) (by rfl) D_need_rows.mg D_need_rows.kp D_need_rows.b .nil pass0 (pa_cons (pv 0) (pa_cons pe_int (pa_cons pe_int (pa_cons pe_int (pa_cons pe_bl pa_nil)))))))
      (pss_one (ps_ret (pe_joinK K pe_str (pe_lc (g := gName 1) (own := [("instruction", 1)]) (by rfl) sc_write_program.nd (piT K (pv 0)) (blkOk_by (own := [("instruction", 1)]) (by rfl)) (fun _ _ _ _ _ => (pg_name (i := 1) sc_write_program.nd rfl (Or.inl rfl))) (fun _ _ _ _ _ => pts_nil) (fun _ _ _ _ _ => (pe_joinK K pe_str (pe_lc (g := gName 2) (own := [("part", 2)]) (by rfl) sc_write_program.nd (piT K (pv 1)) (blkOk_by (own := [("part", 2)]) (by rfl)) (fun _ _ _ _ _ => (pg_name (i := 2) sc_write_program.nd rfl (Or.inl rfl))) (fun _ _ _ _ _ => pts_nil) (fun _ _ _ _ _ => (pe_callTy call_strA (by rfl) TT.b_str (by decide +kernel) (pa_cons (pv 2) pa_nil))))))))))), ?_⟩
  have s0 := ss_start (N := ["program", "instruction", "part"]) e r g
  refine s_drop (A := fun d => d = .non) (e_call l (a_cons (e_var rfl) (a_cons e_int (a_3 e_int e_int e_bl))) ⟨h1, h2, hok⟩) s0 fun W1 H1 z1 s1 => ?_
  dsimp only
  have ll : (l.map Ins.d).length = l.length := len_map ..
  refine s_ret1 (d := .str (progText l)) ?_ s1 e fun v W' H2 z rv => k _ _ _ _ rfl z rv
  have ht : ∀ x ∈ l.map insTxt, x.length ≤ 12 := fun x hx => by
    obtain ⟨i, hi, rfl⟩ := List.mem_map.mp hx
    exact insTxt_le h2 (hok i hi)
  refine e_join (ys := l.map insTxt) e_str (El.e1 ?_) (join_fit ht (by rw [len_map, one_nl]; omega))
  have hm : (l.map insTxt).map D.str = (List.range (l.map Ins.d).length).map (fun i => D.str (insTxt (l.getD i (.z .say)))) := by
    rw [ll, List.map_map]
    apply List.ext_getElem
    · simp
    · intro i h1 h2
      have hi1 : i < l.length := by simpa using h1
      have z : l.getD i (.z .say) = l[i] := by
        rw [List.getD_eq_getElem?_getD, List.getElem?_eq_getElem hi1]
        rfl
      simp only [List.getElem_map, List.getElem_range, Function.comp]
      rw [z]
  rw [hm]
  refine el_lcM (δ' := fun i => [.d (progT l), .d (l.getD i (.z .say)).d, .no]) (io_tup (e_var rfl)) (fun i hi => ?_) (by rw [ll]; omega) (fun i _ => rowD_nints fun d hd => ?_) fun i hi => ?_
  · rw [ll] at hi
    have z : l.getD i (.z .say) = l[i] := by
      rw [List.getD_eq_getElem?_getD, List.getElem?_eq_getElem hi]
      rfl
    rw [getD_ins hi, ← z]
    exact tg_name
  · obtain ⟨_, _, rfl⟩ := List.mem_map.mp hd
    rfl
  · rw [ll] at hi
    have hio := hok _ (getD_mem (d := .z .say) hi)
    generalize l.getD i (.z .say) = one at hio
    have hw := insWs_le h2 hio
    refine e_join (ys := insWs one) e_str (El.e1 ?_) (join_fit hw.1 (by rw [one_sp]; omega))
    have lp : one.ps.length = (insWs one).length := by cases one <;> rfl
    have hm2 : (insWs one).map D.str = (List.range one.ps.length).map (fun i => D.str ((insWs one).getD i Str.empty)) := by
      cases one <;> rfl
    rw [hm2]
    refine el_lcM (δ' := fun j => [.d (progT l), .d one.d, .d (one.ps.getD j .non)]) (io_tup (e_var (by rw [← ins_ps]; rfl))) (fun j hj => tg_name) (by omega) (fun j _ => rowD_nints fun d hd => ?_) fun j hj => ?_
    · obtain ⟨_, _, rfl⟩ := List.mem_map.mp hd
      rfl
    · cases one with
      | z o =>
        have hj1 : j < 1 := hj
        have hj0 : j = 0 := by omega
        subst hj0
        exact e_cb (a_1 (e_var rfl)) c_strAS
      | u o n =>
        have hj1 : j < 2 := hj
        obtain ⟨n0, n1⟩ := hio
        have n2 := top_le o h2
        rcases (by omega : j = 0 ∨ j = 1) with rfl | rfl
        · exact e_cb (a_1 (e_var rfl)) c_strAS
        · exact e_cb (a_1 (e_var rfl)) (c_strAI (log_small n0 (by omega)))
end K11
/-! K11ZG: raise BadLine(line, place). -/
namespace K11
open PySem PySem.Spec PyProof.Rows
open L2
def inS : Stmt := match topS 5 with
  | .ClassDef _ _ _ b _ _ _ _ _ _ _ => b.getD 0 (.Pass ⟨0, 0, 0, 0⟩)
  | _ => .Pass ⟨0, 0, 0, 0⟩
/-- the class BadLine and its __init__ -/
structure BLx (K : PySem.W.Frag) (mg : Str → Option Value) (C fI : Addr) (fd : FuncData) : Prop where
  ex : ∃ (oc : Value) (od : Option Addr) (dV kV doc pm : Value) (an : Option Addr) (cdv ct : Value) (osl : Array (Option Value)),
    fd = PySem.W.fnOf "__init__" "BadLine.__init__" (defArgs inS) (defBody inS) (defScope inS) dV kV doc pm an cdv ct ∧ K.lookup fI = some ⟨oc, od, .func fd, osl⟩ ∧ PySem.W.codeIn K cdv "BadLine.__init__" = true
  b : Binds K fd ["self", "line", "place"] []
  T : OexC K C
  fl : PySem.W.findIn K (.ref C) "line" = some none
  fp : PySem.W.findIn K (.ref C) "place" = some none
  mg : mg "BadLine" = some (.ref C)
  iC : PySem.W.findIn K (.ref C) "__init__" = some (some (.ref fI))
  tI : PySem.W.typeIn K (.ref fI) = some (.type "function")
def sp_init (C : Addr) : Sp := fun vs H Q _ => ∃ (a : Addr) (l p : Int), vs = [.ref a, .int l, .int p] ∧ H a = some (exo a C none) ∧
  ∀ dx, H dx = none → dx ≠ a → Q .non (upd (upd (upd H dx (exd dx [("line", .int l)])) a (exo a C (some dx))) dx (exd dx [("place", .int p), ("line", .int l)]))
variable {PP : Program} {w : World} {K : PySem.W.Frag} {T : List (Addr × Str)} {P : List Addr} {mg : Str → Option Value} {base : Heap} {C fI : Addr} {fd : FuncData}
theorem sc_init : FnScope ["self", "line", "place"] ["self", "line", "place"] (defScope inS) := ⟨rfl, rfl, rfl, by decide +kernel, rfl, by decide +kernel, by decide +kernel⟩
theorem ok_init (BL : BLx K mg C fI fd) : FnOk PP w K mg base CX0 1 fI fd ["self", "line", "place"] (sp_init C) := by
  obtain ⟨oc, od, dV, kV, doc, pm, an, cdv, ct, osl, e1, lk, hcd⟩ := BL.ex
  rw [e1]
  rw [e1] at lk
  refine fn_of lk hcd sc_init (by rintro vs H Q E ⟨a, l, p, rfl, _⟩; rfl) fun A outer s H vs Q E hr h => ?_
  obtain ⟨a, l, p, rfl, ha, k⟩ := h
  refine ⟨_, pss_cons (ps_ost (pv 0) (pv 1)) (pss_one (ps_ost (pv 0) (pv 2))), ?_⟩
  refine ⟨.int l, rfl, .ref a, rfl, a, C, rfl, BL.T, BL.fl, .inl ⟨ha, fun dx hdx hne => ?_⟩⟩
  refine ⟨.int p, rfl, .ref a, rfl, a, C, rfl, BL.T, BL.fp, .inr ⟨dx, [("line", .int l)], upd_same, ?_, by show 1 ≤ 900; omega, k dx hdx hne⟩⟩
  rw [upd_ne hne, upd_same]
end K11
/-! K11ZH: the statement raise BadLine(line, place); need_end. -/
namespace K11
open PySem PySem.Spec PyProof.Rows
open L2
section
variable {K : PySem.W.Frag} {T : List (Addr × Str)} {P : List Addr} {B : Hp} {δ : List Sl} {ta : TA} {W W0 H H1 : Hp} {σ : L2.St} {C : Addr} {l p : Int}
theorem s_raiseBL {Z : XK} (h : Ea1 K T P B ta δ [.int l, .int p]) (s : SS K T P B W0 H W H1 δ σ) (k : ∀ dx H', Ex K T W0 H' → H' dx = some (.xd [("place", .int p), ("line", .int l)]) → Z (.ref C) (some dx) H') :
    tMkO C (sp_init C) [] ta σ H1 Z := h σ W s.r H1 s.y.to _ fun ds vs W' H2 hd z rv => by
  subst hd
  obtain ⟨v, w, rfl, r1, r2⟩ := rpl_2 rv
  cases (show v = .int l from r1)
  cases (show w = .int p from r2)
  refine ⟨by show 2 ≤ 1000; omega, fun a ha => ⟨a, l, p, rfl, upd_same, fun dx hdx hne => ⟨rfl, dx, [("place", .int p), ("line", .int l)], ?_, upd_same, ?_, ?_⟩⟩⟩
  · rw [upd_ne (Ne.symm hne), upd_same]
  · rw [upd_ne hne] at hdx
    exact hdx
  · have hd0 : H2 dx = none := by
      rw [upd_ne hne] at hdx
      exact hdx
    have eq : upd (del (upd (upd (upd (upd H2 a (exo a C none)) dx (exd dx [("line", .int l)])) a (exo a C (some dx))) dx (exd dx [("place", .int p), ("line", .int l)])) a) dx (.xd [("place", .int p), ("line", .int l)]) = upd H2 dx (.xd [("place", .int p), ("line", .int l)]) := by
      funext b
      by_cases hb : b = dx
      · rw [hb, upd_same, upd_same]
      · rw [upd_ne hb, upd_ne hb]
        by_cases hb2 : b = a
        · rw [hb2, del_same, ha]
        · rw [del_ne hb2, upd_ne hb, upd_ne hb2, upd_ne hb, upd_ne hb2]
    rw [eq]
    exact k dx _ (s.y.up.trans (z.up.trans (z.to.trans (Ex.new hd0)))) upd_same
end
variable {PP : Program} {w : World} {K : PySem.W.Frag} {T : List (Addr × Str)} {P : List Addr} {mg : Str → Option Value} {base : Heap} {C fI : Addr} {fdI : FuncData}
abbrev strsD (ws : List Str) : D := .lst (ws.map .str)
theorem sc_need_end : FnScope ["words", "many", "at"] ["words", "many", "at"] (defScope (topS 35)) := ⟨rfl, rfl, rfl, by decide +kernel, rfl, by decide +kernel, by decide +kernel⟩
abbrev sp_nend (K : PySem.W.Frag) (T : List (Addr × Str)) (P : List Addr) (C : Addr) : Sp := spX K T P C (ι := List Str × Nat × Int) (fun i => [strsD i.1, .int (i.2.1 : Int), .int i.2.2]) (fun _ => True) (fun i d => d = .non ∧ i.1.length ≤ i.2.1) (fun i l p => l = i.2.2 ∧ i.2.1 < i.1.length ∧ p = (i.2.1 : Int) + 1)
theorem ok_nend {f : Addr} {fd : FuncData} (TT : Tx K mg) (BL : BLx K mg C fI fdI) (F : Dfn K mg "need_end" 35 ["words", "many", "at"] f fd) : FnOk PP w K mg base (L2.CX PP w) 3 f fd ["words", "many", "at"] (sp_nend K T P C) := by
  refine F.okX sc_need_end (spX_len fun _ => rfl) fun cdv A outer s H vs Q XE hr h => ?_
  obtain ⟨⟨ws, m, at'⟩, W, e, r, g, -, k, kx⟩ := h
  dsimp only at k kx r
  refine ⟨_, (pss_one (ps_if (pt_cmpR op_gt (pe_callB (lenK K) (by rfl) TT.b_len (by decide +kernel) (pa_cons (pv 0) pa_nil)) (pv 1) (nomark _))
      (pss_one (L2.ps_raise rfl (takes_of rfl rfl rfl rfl) (pmk_oex BL.T BL.iC BL.tI (ok_init BL) (hr.mono (by decide)) BL.b .nil pass0 (by rfl) BL.mg (pa_cons (pv 2) (pa_cons (pe_op op_add (pv 1) pe_int) pa_nil)))))
      pss_nil)), ?_⟩
  have s0 := ss_start (N := ["words", "many", "at"]) e r g
  have lw : (ws.map D.str).length = ws.length := len_map ..
  refine s_if1 (t_t (e_op (e_lenL (e_var rfl)) (e_var rfl) o_gt)) s0 (fun hb H1 e1 s1 => ?_) (fun hb H1 e1 s1 => ?_)
  · have q := of_decide_eq_true hb
    rw [lw] at q
    exact s_raiseBL (a_2 (e_var rfl) (e_op (e_var rfl) e_int o_add)) s1 fun dx H' ex hx => kx _ _ dx H' ⟨rfl, by omega, rfl⟩ ex hx
  · have q := of_decide_eq_false hb
    rw [lw] at q
    exact s_end s1 e fun v W' H2 z rv => k _ _ _ _ ⟨rfl, by omega⟩ z rv
end K11
/-! K11ZI: all() of a generator expression, as a reading. -/
namespace K11
open PySem PySem.Spec PyProof.Rows
open L2
section
variable {K : PySem.W.Frag} {T : List (Addr × Str)} {P : List Addr} {B : Hp} {δ : List Sl} {te : TE} {wi : TI} {H H2 : Hp} {p0 : Addr}
theorem Ex.tabbed (h : GxR.TabG H p0) (hd : ∀ q ∈ T, q.1 ≠ p0) (hc : ∀ q, H p0 ≠ some (LamX.CodeO p0 q)) (x : GxR.Tabbed p0 H H2) : Ex K T H H2 := by
  obtain ⟨⟨ps', h2, t2⟩, ot⟩ := x
  obtain ⟨ps, h1, t1⟩ := h
  have ne : ∀ b o, H b = some o → gst o = false → b ≠ p0 := fun b o hb g z => by
    rw [z, h1] at hb
    cases hb
    cases g
  have neR : ∀ b xs, H b = some (.lst xs) → b ≠ p0 := fun b xs hb z => by
    rw [z, h1] at hb
    cases hb
  refine ⟨fun b o hb g => (ot b (ne b o hb g)).trans hb, fun b hb => ?_, fun b a ns r => ?_, fun t q hq => ?_, fun b hb => ?_⟩
  · by_cases z : b = p0
    · rw [z]
      exact ⟨ps', h2, t2⟩
    · obtain ⟨qs, hb1, hb2⟩ := hb
      exact ⟨qs, (ot b z).trans hb1, hb2⟩
  · obtain ⟨i, j, k, hb, hs, r2⟩ := r
    refine ⟨i, j, k, (ot b (neR b _ hb)).trans hb, ?_, r2⟩
    rcases hs with (hs | ⟨u, hs⟩) | hs
    · exact .inl (.inl ((ot a (neR a _ hs)).trans hs))
    · exact .inl (.inr ⟨u, (ot a (ne a _ hs rfl)).trans hs⟩)
    · exact .inr hs
  · obtain ⟨qs, a1, a2, a3⟩ := t q hq
    refine ⟨qs, (ot _ (hd q hq)).trans a1, a2, fun pos cv hcv => ?_⟩
    obtain ⟨c, b1, b2⟩ := a3 pos cv hcv
    refine ⟨c, b1, (ot c fun z => ?_).trans b2⟩
    rw [z] at b2
    exact hc _ b2
  · by_cases z : b = p0
    · rw [z, h2] at hb
      cases hb
    · rw [ot b z] at hb
      exact hb
theorem e_allG {g : TG} {vs : List Nat} {n : Nat} {el : Nat → D} {t : Nat → Bool} {δ' : Nat → List Sl} (hP : p0 ∈ P) (hd : ∀ q ∈ T, q.1 ≠ p0) (hs : Io1 K T P B wi δ n el) (hg : ∀ i, i < n → Tg K T P B g (el i) vs (wipeS δ vs) (δ' i))
    (h : ∀ i, i < n → E1 K T P B te (δ' i) (.bl (t i))) : E1 K T P B (tAllG p0 wi g te vs) δ (.bl ((List.range n).all t)) := fun σ W R H1 e Q q => hs σ W R H1 e _ fun J W2 H2 n' el' hZ z2 S => by
  obtain ⟨rfl, rfl⟩ := hZ
  have tb : GxR.TabG H2 p0 := z2.to.tab _ (z2.up.tab _ (R.g.g p0 hP))
  refine ⟨tb, fun H3 hT => ?_⟩
  have ex : Ex K T H2 H3 := Ex.tabbed tb hd (fun r hr => by
    obtain ⟨ps, h1, _⟩ := tb
    rw [h1] at hr
    cases hr) hT
  have z3 := Vw.mk0 z2.to ex
  refine ⟨n', fun i H => ((List.range i).all t = true) ∧ ∃ Wv, Vw K T W2 H2 Wv H, ⟨rfl, _, z3⟩, fun H hW => ?_, fun i H hi hW => ?_⟩
  · obtain ⟨ht, Wv, zv⟩ := hW
    have zz := z2.trans zv
    refine ⟨S.stop H (zv.up.trans zv.to), q _ _ Wv H (by rw [ht]) zz rp_b⟩
  · obtain ⟨ht, Wv, zv⟩ := hW
    refine ⟨S.go i H hi (zv.up.trans zv.to), fun x H' hy => ?_⟩
    obtain ⟨W5, z5, r5⟩ := S.yld i Wv H x H' hi zv.up zv.to hy
    have R5 := (R.mono (z2.up.trans (zv.up.trans z5.up))).wipe (vs := vs)
    refine hg i hi x W5 H' _ _ R5 z5.to r5 fun σ2 R2 hwl hw => ⟨(wipe_eq hwl hw).trans (wipe_eq (by rw [wipe_length]) fun i q => by rw [wipe_get, if_neg q]), ?_⟩
    refine h i hi σ2 W5 R2 H' z5.to _ fun d v W6 H6 hd6 z6 rv => ?_
    subst hd6
    refine ⟨t i, rv, fun hb => ⟨?_, W6, (zv.trans z5).trans z6⟩, fun hb => ?_⟩
    · rw [List.range_succ, List.all_append, ht]
      simp [hb]
    · refine q _ _ W6 H6 ?_ (((z2.trans zv).trans z5).trans z6) rp_b
      congr 1
      symm
      rw [Bool.eq_false_iff]
      intro hall
      rw [List.all_eq_true] at hall
      have k := hall i (List.mem_range.mpr hi)
      rw [hb] at k
      cases k
end
end K11
/-! K11ZJ: is_row, are_rows. -/
namespace K11
open PySem PySem.Spec PyProof.Rows
open L2
/-- a def of the text that holds a generator expression: its code at c, the table at p0 -/
structure DfnT (K : PySem.W.Frag) (mg : Str → Option Value) (base : Heap) (x : Str) (i : Nat) (ps : List Str) (f : Addr) (fd : FuncData) (c p0 : Addr) : Prop where
  ex : ∃ (oc : Value) (od : Option Addr) (dV kV doc pm : Value) (an : Option Addr) (ct : Value) (osl : Array (Option Value)),
    fd = PySem.W.fnOf x x (defArgs (topS i)) (defBody (topS i)) (defScope (topS i)) dV kV doc pm an (.ref c) ct ∧ K.lookup f = some ⟨oc, od, .func fd, osl⟩ ∧ PySem.W.codeIn K (.ref c) x = true
  tb : GxR.TabB base mg c p0
  kp : PySem.W.keepIn K (.ref f) = true
  mg : mg x = some (.ref f)
  b : Binds K fd ps []
variable {PP : Program} {w : World} {K : PySem.W.Frag} {T : List (Addr × Str)} {P : List Addr} {mg : Str → Option Value} {base : Heap} {c p0 : Addr}
theorem DfnT.ok {x : Str} {i : Nat} {f : Addr} {fd : FuncData} {N ps : List Str} {k : Nat} {sp : Sp} (F : DfnT K mg base x i ps f fd c p0) (S : FnScope N ps (defScope (topS i))) (len : ∀ vs H Q E, sp vs H Q E → vs.length = ps.length)
    (hbody : ∀ (A : Around) (outer : List Env) (s : Shared) (H : Hp) (vs : List V) (Q : VK) (E : XK), Room k (A.deeper (envOfC x (defScope (topS i)) s.heap.objs.size f (.ref c))) → sp vs H Q E →
      ∃ t, PSs (cxOf CX0 PP w K mg base N x (defScope (topS i)) f (.ref c) A outer s H E).nox (defBody (topS i)) t ∧ t { nx := fun _ H' => Q .non H', rt := Q } (L2.start N vs) H) : FnOk PP w K mg base CX0 (k + 1) f fd ps sp := by
  obtain ⟨oc, od, dV, kV, doc, pm, an, ct, osl, rfl, lk, hcd⟩ := F.ex
  refine fn_of lk hcd S len fun A outer s H vs Q E hr hsp => ?_
  obtain ⟨t, h, q⟩ := hbody A outer s H vs Q E hr hsp
  exact ⟨t, h.nox, q⟩
theorem sc_is_row : FnScope ["prime", "value", "many", "one"] ["prime", "value", "many"] (defScope (topS 9)) := ⟨rfl, rfl, rfl, by decide +kernel, rfl, by decide +kernel, by decide +kernel⟩
abbrev sp_isrow (K : PySem.W.Frag) (T : List (Addr × Str)) (P : List Addr) : Sp := spF K T P (ι := Int × Nat × List Int) (fun i => [.int i.1, rowT i.2.2, .int (i.2.1 : Int)]) (fun i => RowOk i.1 i.2.1 i.2.2) (fun i d => d = .bl true)
theorem ok_isrow {f f1 : Addr} {fd fd1 : FuncData} (TT : Tx K mg) (hP : p0 ∈ P) (hd : ∀ q ∈ T, q.1 ≠ p0) (F : DfnT K mg base "is_row" 9 ["prime", "value", "many"] f fd c p0)
    (D_is_number : Dfn K mg "is_number" 8 ["value", "low", "high"] f1 fd1) (G_is_number : FnOk PP w K mg base CX0 1 f1 fd1 ["value", "low", "high"] (sp_is_number K T P)) :
    FnOk PP w K mg base CX0 5 f fd ["prime", "value", "many"] (sp_isrow K T P) := by
  refine F.ok sc_is_row (spF_len fun _ => rfl) fun A outer s H vs Q XE hr h => ?_
  obtain ⟨⟨p, m, ns⟩, W, e, r, g, hok, k⟩ := h
  dsimp only at hok k r
  refine ⟨_, (pss_one (ps_ret (pe_and (pe_callB (isiK K) (by rfl) TT.b_isinstance (by decide +kernel) (pa_cons (pv 1) (pa_cons (pe_bltn (v := .ty "tuple") (u := .type "tuple") (by rfl) TT.b_tuple (by decide +kernel) rfl) pa_nil))) (pe_and (pe_cmpR op_eq (pe_callB (lenK K) (by rfl) TT.b_len (by decide +kernel) (pa_cons (pv 1) pa_nil)) (pv 2) (nomark _)) (pe_one (pe_allG (k := 1) (own := [("one", 3)]) (g := gName 3) hr rfl sc_is_row.nd (by rfl) TT.b_all F.tb rfl (piT K (pv 1)) (gnOk_by (by rfl)) (fun _ _ _ _ _ _ _ => pg_name (i := 3) sc_is_row.nd rfl (Or.inl rfl)) (fun _ _ _ _ _ _ _ hr2 => pe_call G_is_number hr2 (by rfl) D_is_number.mg D_is_number.kp D_is_number.b .nil pass0 (pa_cons (pv 3) (pa_cons pe_int (pa_cons (pe_op op_sub (pv 0) pe_int) pa_nil)))))))))), ?_⟩
  have s0 := ss_start (N := ["prime", "value", "many", "one"]) e r g
  have ln : (ns.map D.int).length = ns.length := len_map ..
  refine s_ret1 (d := .bl true) ?_ s0 e fun v W' H2 z rv => k _ _ _ _ rfl z rv
  refine E1.is (e_andV (l := true) (e_isi (d := rowT ns) (e_var rfl) (kT _)) fun _ => E1.is (e_andV (l := true) (e_op (e_lenT (e_var rfl)) (e_var rfl) o_eqI) fun _ => E1.is (e_allG (t := fun i => isNum (.int (ns.getD i 0)) 0 (p - 1)) (δ' := fun i => [.d (.int p), .d (rowT ns), .d (.int (m : Int)), .d (.int (ns.getD i 0))]) hP hd (io_tup (e_var rfl)) (fun i hi => ?_) fun i hi => e_call (D.int (ns.getD i 0), (0 : Int), p - 1) (a_3 (e_var rfl) e_int (e_op (e_var rfl) e_int o_sub)) trivial) ?_) ?_) rfl
  · rw [ln] at hi
    exact Tg.cast (getD_int hi) tg_name
  · congr 1
    rw [List.all_eq_true]
    intro i hi
    rw [List.mem_range, ln] at hi
    have q := hok.rng _ (getD_mem (d := 0) hi)
    show (decide _ && decide _) = true
    rw [decide_eq_true q.1, decide_eq_true (by omega : ns.getD i 0 ≤ p - 1)]
    rfl
  · rw [ln, hok.len]
    simp
theorem sc_are_rows : FnScope ["prime", "value", "low", "high", "many", "row"] ["prime", "value", "low", "high", "many"] (defScope (topS 18)) := ⟨rfl, rfl, rfl, by decide +kernel, rfl, by decide +kernel, by decide +kernel⟩
abbrev sp_arerows (K : PySem.W.Frag) (T : List (Addr × Str)) (P : List Addr) : Sp := spF K T P (ι := Int × List (List Int) × Nat × Nat × Nat) (fun i => [.int i.1, rowsT i.2.1, .int (i.2.2.1 : Int), .int (i.2.2.2.1 : Int), .int (i.2.2.2.2 : Int)])
  (fun i => i.2.2.1 ≤ i.2.1.length ∧ i.2.1.length ≤ i.2.2.2.1 ∧ ∀ r ∈ i.2.1, RowOk i.1 i.2.2.2.2 r) (fun i d => d = .bl true)
theorem ok_arerows {f f1 : Addr} {fd fd1 : FuncData} (TT : Tx K mg) (hP : p0 ∈ P) (hd : ∀ q ∈ T, q.1 ≠ p0) (F : DfnT K mg base "are_rows" 18 ["prime", "value", "low", "high", "many"] f fd c p0)
    {x1 : Str} {x2 : Nat} (m_row : mg "is_row" = some (.ref f1)) (k_row : PySem.W.keepIn K (.ref f1) = true) (b_row : Binds K fd1 ["prime", "value", "many"] []) (G_is_row : FnOk PP w K mg base CX0 5 f1 fd1 ["prime", "value", "many"] (sp_isrow K T P)) :
    FnOk PP w K mg base CX0 9 f fd ["prime", "value", "low", "high", "many"] (sp_arerows K T P) := by
  refine F.ok sc_are_rows (spF_len fun _ => rfl) fun A outer s H vs Q XE hr h => ?_
  obtain ⟨⟨p, rs, lo, hi, m⟩, W, e, r, g, ⟨h1, h2, hok⟩, k⟩ := h
  dsimp only at h1 h2 hok k r
  refine ⟨_, (pss_cons (ps_if (PW.pt (pw_or (pt_not (pt_val (pe_callB (isiK K) (by rfl) TT.b_isinstance (by decide +kernel) (pa_cons (pv 1) (pa_cons (pe_bltn (v := .ty "tuple") (u := .type "tuple") (by rfl) TT.b_tuple (by decide +kernel) rfl) pa_nil))))) (pw_or1 (pt_not (pt_chain op_le op_le (pv 2) (pe_callB (lenK K) (by rfl) TT.b_len (by decide +kernel) (pa_cons (pv 1) pa_nil)) (pv 3))))))
      (pss_one (ps_ret pe_bl))
      pss_nil)
      (pss_one (ps_ret (pe_allG (k := 5) (own := [("row", 5)]) (g := gName 5) hr rfl sc_are_rows.nd (by rfl) TT.b_all F.tb rfl (piT K (pv 1)) (gnOk_by (by rfl)) (fun _ _ _ _ _ _ _ => pg_name (i := 5) sc_are_rows.nd rfl (Or.inl rfl)) (fun _ _ _ _ _ _ _ hr2 => pe_call G_is_row hr2 (by rfl) m_row k_row b_row .nil pass0 (pa_cons (pv 0) (pa_cons (pv 5) (pa_cons (pv 4) pa_nil)))))))), ?_⟩
  have s0 := ss_start (N := ["prime", "value", "low", "high", "many", "row"]) e r g
  have ln : (rs.map rowT).length = rs.length := len_map ..
  refine s_if1 (k := false) (Et1.is (t_or1 (k := false) (l := false) (t_not1 (t_b (e_isi (d := rowsT rs) (e_var rfl) (kT _)))) fun _ => t_not1 (t_t (k := true) (E1.is (e_chain (e_var rfl) (e_lenT (l := rs.map rowT) (e_var rfl)) o_le (fun _ => e_var rfl) fun _ => o_le) ?_))) rfl) s0 (fun hb => absurd hb (by decide)) fun _ H1 e1 s1 => ?_
  · rw [ln, decide_eq_true (by omega : (lo : Int) ≤ (rs.length : Int)), decide_eq_true (by omega : (rs.length : Int) ≤ (hi : Int))]
    rfl
  try unfold tNext
  dsimp only
  refine s_ret1 (d := .bl true) ?_ s1 e fun v W' H2 z rv => k _ _ _ _ rfl z rv
  refine E1.is (e_allG (t := fun i => true) (δ' := fun i => [.d (.int p), .d (rowsT rs), .d (.int (lo : Int)), .d (.int (hi : Int)), .d (.int (m : Int)), .d (rowT (rs.getD i []))]) hP hd (io_tup (e_var rfl)) (fun i hi => ?_) fun i hi => ?_) ?_
  · rw [ln] at hi
    exact Tg.cast (getD_rows hi) tg_name
  · rw [ln] at hi
    exact e_call (p, m, rs.getD i []) (a_3 (e_var rfl) (e_var rfl) (e_var rfl)) (hok _ (getD_mem hi))
  · congr 1
    rw [List.all_eq_true]
    intro i _
    rfl
end K11
/-! K11ZK: need_machine. -/
namespace K11
open PySem PySem.Spec PyProof.Rows
open L2
section
variable {K : PySem.W.Frag} {T : List (Addr × Str)} {P : List Addr} {B : Hp} {δ : List Sl} {a b c d : D}
theorem rpl_4 {a b c d : D} {W : Hp} {vs : List V} (h : RpL K W [a, b, c, d] vs) : ∃ t u v w, vs = [t, u, v, w] ∧ Rp K W a t ∧ Rp K W b u ∧ Rp K W c v ∧ Rp K W d w := by
  match vs, h with
  | [t, u, v, w], ⟨r1, r2, r3, r4, _⟩ => exact ⟨t, u, v, w, rfl, r1, r2, r3, r4⟩
theorem tg_4 {l m n o : Nat} {vs : List Nat} (h1 : l ∈ vs := by decide) (h2 : m ∈ vs := by decide) (h3 : n ∈ vs := by decide) (h4 : o ∈ vs := by decide) : Tg K T P B (gTup K 4 (gCons (gName l) (gCons (gName m) (gCons (gName n) (gCons (gName o) gNil))))) (.tup [a, b, c, d]) vs δ ((((δ.set l (.d a)).set m (.d b)).set n (.d c)).set o (.d d)) := fun x W H Q σ R e rx q => by
  obtain ⟨p, xs, rfl, hs, hl⟩ := rx
  obtain ⟨t, u, v, w, rfl, ra, rb, rc, rd⟩ := rpl_4 hl
  exact ⟨p, [t, u, v, w], rfl, ex_st e hs, rfl, t, [u, v, w], rfl, u, [v, w], rfl, v, [w], rfl, w, [], rfl, rfl, q _ ((((R.set ra).set rb).set rc).set rd) (by rw [List.length_set, List.length_set, List.length_set, List.length_set]) fun i hi => by
    rw [List.getElem?_set, if_neg (by rintro rfl; exact hi h4), List.getElem?_set, if_neg (by rintro rfl; exact hi h3), List.getElem?_set, if_neg (by rintro rfl; exact hi h2), List.getElem?_set, if_neg (by rintro rfl; exact hi h1)]⟩
end
variable {PP : Program} {w : World} {K : PySem.W.Frag} {T : List (Addr × Str)} {P : List Addr} {mg : Str → Option Value} {base : Heap} {aP aS aW c0 p0 : Addr}
theorem sc_need_machine : FnScope ["value", "prime", "stir", "writes", "sights"] ["value"] (defScope (topS 19)) := ⟨rfl, rfl, rfl, by decide +kernel, rfl, by decide +kernel, by decide +kernel⟩
abbrev sp_needm (K : PySem.W.Frag) (T : List (Addr × Str)) (P : List Addr) : Sp := spF K T P (ι := Mac) (fun i => [i.d]) (fun i => i.Ok) (fun i d => d = .non)
theorem prime_in {p : Int} (h : isPr p) : inV (.int p) [.int 2, .int 3, .int 5, .int 7] = true := by
  rcases h with rfl | rfl | rfl | rfl <;> decide +kernel
theorem ok_needm {f f1 f2 f3 : Addr} {fd fd1 fd2 fd3 : FuncData} (TT : Tx K mg) (GG : Gx K mg aP aS aW) (F : Dfn K mg "need_machine" 19 ["value"] f fd)
    (D_is_number : Dfn K mg "is_number" 8 ["value", "low", "high"] f1 fd1) (G_is_number : FnOk PP w K mg base CX0 1 f1 fd1 ["value", "low", "high"] (sp_is_number K T P))
    (D_are_rows : DfnT K mg base "are_rows" 18 ["prime", "value", "low", "high", "many"] f2 fd2 c0 p0) (G_are_rows : FnOk PP w K mg base CX0 9 f2 fd2 ["prime", "value", "low", "high", "many"] (sp_arerows K T P))
    (D_reduced : Dfn K mg "reduced" 14 ["prime", "rows"] f3 fd3) (G_reduced : FnOk PP w K mg base CX0 2 f3 fd3 ["prime", "rows"] (sp_reduced K T P)) :
    FnOk PP w K mg base CX0 10 f fd ["value"] (sp_needm K T P) := by
  refine F.ok sc_need_machine (spF_len fun _ => rfl) fun cdv A outer s H vs Q XE hr h => ?_
  obtain ⟨m, W, e, r, g, mo, k⟩ := h
  dsimp only at mo k r
  refine ⟨_, (pss_cons (ps_if (PW.pt (pw_or (pt_not (pt_val (pe_callB (isiK K) (by rfl) TT.b_isinstance (by decide +kernel) (pa_cons (pv 0) (pa_cons (pe_bltn (v := .ty "tuple") (u := .type "tuple") (by rfl) TT.b_tuple (by decide +kernel) rfl) pa_nil))))) (pw_or1 (pt_cmpR op_ne (pe_callB (lenK K) (by rfl) TT.b_len (by decide +kernel) (pa_cons (pv 0) pa_nil)) pe_int (nomark _)))))
      (pss_one ps_never)
      pss_nil)
      (pss_cons (ps_asg (pv 0) (pg_tup (by rfl) (pgs_cons (pg_name (i := 1) sc_need_machine.nd rfl (Or.inl rfl)) (pgs_cons (pg_name (i := 2) sc_need_machine.nd rfl (Or.inl rfl)) (pgs_cons (pg_name (i := 3) sc_need_machine.nd rfl (Or.inl rfl)) (pgs_cons (pg_name (i := 4) sc_need_machine.nd rfl (Or.inl rfl)) pgs_nil))))))
      (pss_cons (ps_if (PW.pt (pw_or (pt_not (pt_val (pe_call G_is_number (hr.mono (by decide)) (by rfl) D_is_number.mg D_is_number.kp D_is_number.b .nil pass0 (pa_cons (pv 1) (pa_cons pe_int (pa_cons pe_int pa_nil)))))) (pw_or1 (pt_cmpR (notInK K) (pv 1) (pe_glob (v := .ref aP) (by rfl) GG.g_PRIMES rfl) (by rfl)))))
      (pss_one ps_never)
      pss_nil)
      (pss_cons (ps_if (PW.pt (pw_or (pt_not (pt_val (pe_callB (isiK K) (by rfl) TT.b_isinstance (by decide +kernel) (pa_cons (pv 2) (pa_cons (pe_bltn (v := .ty "tuple") (u := .type "tuple") (by rfl) TT.b_tuple (by decide +kernel) rfl) pa_nil))))) (pw_or1 (pt_not (pt_chain op_le op_le pe_int (pe_callB (lenK K) (by rfl) TT.b_len (by decide +kernel) (pa_cons (pv 2) pa_nil)) (pe_globI (by rfl) GG.g_MOST_CELLS))))))
      (pss_one ps_never)
      pss_nil)
      (pss_cons (ps_if (PW.pt (pw_or (pt_not (pt_val (pe_call G_are_rows (hr.mono (by decide)) (by rfl) D_are_rows.mg D_are_rows.kp D_are_rows.b .nil pass0 (pa_cons (pv 1) (pa_cons (pv 2) (pa_cons (pe_callB (lenK K) (by rfl) TT.b_len (by decide +kernel) (pa_cons (pv 2) pa_nil)) (pa_cons (pe_callB (lenK K) (by rfl) TT.b_len (by decide +kernel) (pa_cons (pv 2) pa_nil)) (pa_cons (pe_callB (lenK K) (by rfl) TT.b_len (by decide +kernel) (pa_cons (pv 2) pa_nil)) pa_nil)))))))) (pw_or1 (pt_cmpR op_lt (pe_callB (lenK K) (by rfl) TT.b_len (by decide +kernel) (pa_cons (pe_call G_reduced (hr.mono (by decide)) (by rfl) D_reduced.mg D_reduced.kp D_reduced.b .nil pass0 (pa_cons (pv 1) (pa_cons (pv 2) pa_nil))) pa_nil)) (pe_callB (lenK K) (by rfl) TT.b_len (by decide +kernel) (pa_cons (pv 2) pa_nil)) (nomark _)))))
      (pss_one ps_never)
      pss_nil)
      (pss_cons (ps_if (pt_not (pt_val (pe_call G_are_rows (hr.mono (by decide)) (by rfl) D_are_rows.mg D_are_rows.kp D_are_rows.b .nil pass0 (pa_cons (pv 1) (pa_cons (pv 3) (pa_cons pe_int (pa_cons (pe_globI (by rfl) GG.g_MOST_PLUGS) (pa_cons (pe_callB (lenK K) (by rfl) TT.b_len (by decide +kernel) (pa_cons (pv 2) pa_nil)) pa_nil))))))))
      (pss_one ps_never)
      pss_nil)
      (pss_one (ps_if (pt_not (pt_val (pe_call G_are_rows (hr.mono (by decide)) (by rfl) D_are_rows.mg D_are_rows.kp D_are_rows.b .nil pass0 (pa_cons (pv 1) (pa_cons (pv 4) (pa_cons pe_int (pa_cons (pe_globI (by rfl) GG.g_MOST_PLUGS) (pa_cons (pe_callB (lenK K) (by rfl) TT.b_len (by decide +kernel) (pa_cons (pv 2) pa_nil)) pa_nil))))))))
      (pss_one ps_never)
      pss_nil)))))))), ?_⟩
  have s0 := ss_start (N := ["value", "prime", "stir", "writes", "sights"]) e r g
  have pb := mo.pr.pos
  have hs := mo.st
  have h1 := mo.n1
  have h4 := mo.n4
  have n100 : m.n ≤ 100 := by omega
  have l100 : m.st.length ≤ 100 := by rw [hs.len]; exact n100
  have lst : (m.st.map rowT).length = m.n := by rw [len_map]; exact hs.len
  refine s_if1 (k := false) (Et1.is (t_or1 (k := false) (l := false) (t_not1 (t_b (e_isi (d := m.d) (e_var rfl) (kT _)))) fun _ => t_t (E1.is (e_op (e_lenT (l := [.int m.p, rowsT m.st, rowsT m.wr, rowsT m.si]) (e_var rfl)) e_int o_neI) rfl)) rfl) s0 (fun hb => absurd hb (by decide)) fun _ H1 e1 s1 => ?_
  try unfold tNext
  try dsimp only
  refine s_tgt (A := fun d => d = m.d) (vs := [1, 2, 3, 4]) (δ' := fun _ => [.d m.d, .d (.int m.p), .d (rowsT m.st), .d (rowsT m.wr), .d (rowsT m.si)]) (e_var rfl) s1 (fun d hd => by subst hd; exact tg_4) fun d σ2 W2 H2 hd z2 s2 => ?_
  try unfold tNext
  try dsimp only
  refine s_if1 (k := false) (Et1.is (t_or1 (k := false) (l := false) (t_not1 (k := true) (t_b (E1.is (e_call (D.int m.p, (2 : Int), (7 : Int)) (a_3 (e_var rfl) e_int e_int) trivial) ?_))) fun _ => t_t (E1.is (e_op (e_var rfl) (e_c (d := .tup [.int 2, .int 3, .int 5, .int 7]) GG.d_PRIMES) (o_inT (x := .int m.p) (xs := [.int 2, .int 3, .int 5, .int 7]) (neg := true) rfl rfl rfl rfl)) ?_)) rfl) s2 (fun hb => absurd hb (by decide)) fun _ H3 e3 s3 => ?_
  · show D.bl (decide _ && decide _) = _
    rw [decide_eq_true pb.1, decide_eq_true pb.2]
    rfl
  · rw [if_pos rfl, prime_in mo.pr]
    rfl
  try unfold tNext
  try dsimp only
  refine s_if1 (k := false) (Et1.is (t_or1 (k := false) (l := false) (t_not1 (t_b (e_isi (d := rowsT m.st) (e_var rfl) (kT _)))) fun _ => t_not1 (t_t (k := true) (E1.is (e_chain e_int (e_lenT (l := m.st.map rowT) (e_var rfl)) o_le (fun _ => e_c (d := .int 4) fun W => rfl) fun _ => o_le) ?_))) rfl) s3 (fun hb => absurd hb (by decide)) fun _ H4 e4 s4 => ?_
  · rw [lst, decide_eq_true (by omega : (1 : Int) ≤ (m.n : Int)), decide_eq_true (by omega : (m.n : Int) ≤ 4)]
    rfl
  try unfold tNext
  try dsimp only
  have hlen : ∀ {B : Hp}, E1 K T P B (tCB (fun xs H Q => ∃ x n, xs = [x] ∧ LenV K x H n ∧ Q (.int n) H) (tCons (tVar 2) tNil)) [.d m.d, .d (.int m.p), .d (rowsT m.st), .d (rowsT m.wr), .d (rowsT m.si)] (.int (m.n : Int)) := fun {B} => lst ▸ e_lenT (l := m.st.map rowT) (e_var rfl)
  refine s_if1 (k := false) (Et1.is (t_or1 (k := false) (l := false) (t_not1 (k := true) (t_b (e_call (m.p, m.st, m.n, m.n, m.n) (a_cons (e_var rfl) (a_cons (e_var rfl) (a_3 hlen hlen hlen))) ⟨Nat.le_of_eq hs.len.symm, Nat.le_of_eq hs.len, hs.row⟩))) fun _ => t_t (E1.is (e_op (ee_lenL (n := m.n) ((e_call (m.p, m.st) (a_2 (e_var rfl) (e_var rfl)) ⟨mo.pr, l100, m.n, h1, n100, hs.row⟩).imp fun d hd => ?_)) hlen o_lt) ?_)) rfl) s4 (fun hb => absurd hb (by decide)) fun _ H5 e5 s5 => ?_
  · obtain ⟨l, hl1, hl2⟩ := hd
    exact ⟨l, hl1, hl2.trans hs.full⟩
  · congr 1
    exact decide_eq_false (by omega)
  try unfold tNext
  try dsimp only
  refine s_if1 (k := false) (t_not1 (k := true) (t_b (e_call (m.p, m.wr, 1, 4, m.n) (a_cons (e_var rfl) (a_cons (e_var rfl) (a_3 e_int (e_c (d := .int 4) fun W => rfl) hlen))) ⟨mo.wr.lo, mo.wr.hi, mo.wr.row⟩))) s5 (fun hb => absurd hb (by decide)) fun _ H6 e6 s6 => ?_
  try unfold tNext
  try dsimp only
  refine s_if1 (k := false) (t_not1 (k := true) (t_b (e_call (m.p, m.si, 1, 4, m.n) (a_cons (e_var rfl) (a_cons (e_var rfl) (a_3 e_int (e_c (d := .int 4) fun W => rfl) hlen))) ⟨mo.si.lo, mo.si.hi, mo.si.row⟩))) s6 (fun hb => absurd hb (by decide)) fun _ H7 e7 s7 => ?_
  try unfold tNext
  exact s_end s7 e fun v W' H2 z rv => k _ _ _ _ rfl z rv
end K11
/-! K11ZL: write_machine. -/
namespace K11
open PySem PySem.Spec PyProof.Rows
open L2
variable {PP : Program} {w : World} {K : PySem.W.Frag} {T : List (Addr × Str)} {P : List Addr} {mg : Str → Option Value} {base : Heap}
theorem sc_write_machine : FnScope ["machine", "rows", "word", "table", "row", "number"] ["machine"] (defScope (topS 32)) := ⟨rfl, rfl, rfl, by decide +kernel, rfl, by decide +kernel, by decide +kernel⟩
abbrev sp_wmac (K : PySem.W.Frag) (T : List (Addr × Str)) (P : List Addr) : Sp := spF K T P (ι := Mac) (fun i => [i.d]) (fun i => i.Ok) (fun i d => d = .str (macText i))
theorem ok_wmac {f f1 : Addr} {fd fd1 : FuncData} (TT : Tx K mg) (F : Dfn K mg "write_machine" 32 ["machine"] f fd)
    (D_need_machine : Dfn K mg "need_machine" 19 ["value"] f1 fd1) (G_need_machine : FnOk PP w K mg base CX0 10 f1 fd1 ["value"] (sp_needm K T P)) :
    FnOk PP w K mg base CX0 11 f fd ["machine"] (sp_wmac K T P) := by
  refine F.ok sc_write_machine (spF_len fun _ => rfl) fun cdv A outer s H vs Q XE hr h => ?_
  obtain ⟨m, W, e, r, g, mo, k⟩ := h
  dsimp only at mo k r
  refine ⟨_, (pss_cons (ps_expr (pe_call G_need_machine (hr.mono (by decide)) (by rfl) D_need_machine.mg D_need_machine.kp D_need_machine.b .nil pass0 (pa_cons (pv 0) pa_nil)))
      (pss_cons (ps_set (i := 1) sc_write_machine.nd rfl (Or.inl rfl) (pe_lst (pa_cons (pe_op op_add_str pe_str (pe_callTy call_str_int (by rfl) TT.b_str (by decide +kernel) (pa_cons (pe_ix (ixT K) (pv 0) pe_int (fun _ _ => rfl)) pa_nil))) pa_nil)))
      (pss_cons (ps_for PassesOwn.never rfl (RZ.pi_zipA (by rfl) TT.b_zip (pa_cons (pe_tup (pa_cons pe_str (pa_cons pe_str (pa_cons pe_str pa_nil)))) (pa_cons (pe_slice (slTK K) (pv 0) (po_some pe_int) po_none) pa_nil))) (pg_tup (by rfl) (pgs_cons (pg_name (i := 2) sc_write_machine.nd rfl (Or.inr rfl)) (pgs_cons (pg_name (i := 3) sc_write_machine.nd rfl (Or.inl rfl)) pgs_nil)))
      (pss_one (ps_expr (pe_bm PySem.F.plainAttrs_list PySem.F.slot_list_extend PySem.F.type_list_extend mt_extend (pv 1) (pa_cons (pe_lc (g := gName 4) (own := [("row", 4)]) (by rfl) sc_write_machine.nd (piT K (pv 3)) (blkOk_by (own := [("row", 4)]) (by rfl)) (fun _ _ _ _ _ => (pg_name (i := 4) sc_write_machine.nd rfl (Or.inl rfl))) (fun _ _ _ _ _ => pts_nil) (fun _ _ _ _ _ => (pe_op op_add_str (pe_op op_add_str (pv 2) pe_str) (pe_joinK K pe_str (pe_lc (g := gName 5) (own := [("number", 5)]) (by rfl) sc_write_machine.nd (piT K (pv 4)) (blkOk_by (own := [("number", 5)]) (by rfl)) (fun _ _ _ _ _ => (pg_name (i := 5) sc_write_machine.nd rfl (Or.inl rfl))) (fun _ _ _ _ _ => pts_nil) (fun _ _ _ _ _ => (pe_callTy call_str_int (by rfl) TT.b_str (by decide +kernel) (pa_cons (pv 5) pa_nil)))))))) pa_nil)))))
      (pss_one (ps_ret (pe_joinK K pe_str (pv 1))))))), ?_⟩
  have pb := mo.pr.pos
  have s00 := ss_start (N := ["machine", "rows", "word", "table", "row", "number"]) e r g
  refine s_drop (A := fun d => d = .non) (e_call m (a_1 (e_var rfl)) mo) s00 fun W0' H0 z0 s0 => ?_
  try dsimp only
  refine s_asgL (A := fun l => l = (macRows m 0).map .str) (el_lst (a_1 (e_op e_str (e_cb (a_1 (e_op (e_var rfl) e_int (o_ixT (d := .int m.p) rfl))) (c_strI (log_small (by omega) (by omega)))) (o_catS ?_))) (hr := rfl) (hl := by show 1 ≤ 100000; omega)) s0 fun ds q W1 H1 hA v1 s1 o1 _ => ?_
  · have h6 : ("prime " : Str).length = 6 := by decide +kernel
    rw [h6, numS_1 (by omega) (by omega)]
    omega
  subst hA
  try dsimp only
  have hcut : cutD [.int m.p, rowsT m.st, rowsT m.wr, rowsT m.si] (some 1) none = [rowsT m.st, rowsT m.wr, rowsT m.si] := rfl
  refine s_for (io_zipTT (l := [.str "stir", .str "write", .str "see"]) (m := cutD [.int m.p, rowsT m.st, rowsT m.wr, rowsT m.si] (some 1) none) (a_2 (e_tup (a_3 e_str e_str e_str)) (e_slT (e_var rfl) (p_some e_int) p_none ?_)) rfl) s1 fun n el W2 H2 hz z2 s2 => ?_
  · show ¬ (HT.sIx 4 0 (some 1) = 0 ∧ _)
    intro h
    exact absurd h.1 (by decide)
  obtain ⟨hn, rfl⟩ := hz
  have hn : n = 3 := hn
  subst hn
  refine ⟨fun i σ' W' H' => ∃ a b, Ex K T W2 W' ∧ SS K T P W W H W' H' [.d m.d, .own q, a, b, .no, .no] σ' ∧ Ow K W' H H' q ((macRows m i).map .str), ?_, ?_, ?_, ?_⟩
  · exact ⟨_, _, Ex.refl _, s2, o1.step z2.vv⟩
  · rintro i σ' W' H' _ ⟨a, b, e1, ss, _⟩
    exact ⟨e1, _, ss⟩
  · rintro i σ' W' H' hi ⟨a, b, e1, ss, ow⟩
    have hpt : ∃ x t, (x, t) ∈ parts m ∧ (parts m).getD i ("", []) = (x, t) ∧ ([D.str "stir", .str "write", .str "see"].getD i .non) = .str x ∧ ((cutD [.int m.p, rowsT m.st, rowsT m.wr, rowsT m.si] (some 1) none).getD i .non) = rowsT t := by
      rw [hcut]
      match i, hi with
      | 0, _ => exact ⟨_, _, List.mem_cons_self .., rfl, rfl, rfl⟩
      | 1, _ => exact ⟨_, _, List.mem_cons_of_mem _ (List.mem_cons_self ..), rfl, rfl, rfl⟩
      | 2, _ => exact ⟨_, _, List.mem_cons_of_mem _ (List.mem_cons_of_mem _ (List.mem_cons_self ..)), rfl, rfl, rfl⟩
    obtain ⟨x, t, hmem, hget, hx, htt⟩ := hpt
    obtain ⟨hx5, ht4, hrow⟩ := mo.tab _ hmem
    refine ⟨_, [.d m.d, .own q, .d (.str x), .d (rowsT t), .no, .no], [2, 3], ss, Tg.cast (d' := .tup [.str x, rowsT t]) (by dsimp only; rw [hx, htt]) tg_pair, fun σ2 W5 H5 z5 s5 => ?_⟩
    have hR := mo.rows i
    have lt : (t.map rowT).length = t.length := len_map ..
    have ht4 : t.length ≤ 4 := ht4
    have o5 := ow.step z5.vv
    refine s_ext (n := 1) (ms := (t.map (rowTxt x)).map .str) rfl o5 (El.e1 ?_) s5 (by rw [len_map, len_map, len_map]; omega) (by rw [← List.map_append]; exact rowD_strs _) fun W6 H6 z6 xs s6 o6 => ⟨W6, _, _, e1.trans (z5.up.trans z6.up), s6, ?_⟩
    · have hm : (t.map (rowTxt x)).map D.str = (List.range (t.map rowT).length).map (fun i => D.str (rowTxt x (t.getD i []))) := by
        rw [lt, List.map_map]
        apply List.ext_getElem
        · simp
        · intro i h1 h2
          have hi1 : i < t.length := by simpa using h1
          have z : t.getD i [] = t[i] := by
            rw [List.getD_eq_getElem?_getD, List.getElem?_eq_getElem hi1]
            rfl
          simp only [List.getElem_map, List.getElem_range, Function.comp]
          rw [z]
      rw [hm]
      refine el_lcM (δ' := fun j => [.d m.d, .own q, .d (.str x), .d (rowsT t), .d (rowT (t.getD j [])), .no]) (io_tup (e_var rfl)) (fun j hj => ?_) (by rw [lt]; omega) (fun j _ => rowD_nints fun d hd => ?_) fun j hj => ?_
      · rw [lt] at hj
        rw [getD_rows hj]
        exact tg_name
      · obtain ⟨_, _, rfl⟩ := List.mem_map.mp hd
        rfl
      · rw [lt] at hj
        refine e_rowTxt (δ' := fun j2 => [.d m.d, .own q, .d (.str x), .d (rowsT t), .d (rowT (t.getD j [])), .d (.int ((t.getD j []).getD j2 0))]) pb.2 mo.n4 (hrow _ (getD_mem hj)) hx5 (e_var rfl) (e_var rfl) (fun _ _ => tg_name) fun _ _ => e_var rfl
    · rw [macRows_succ hi, hget, List.map_append]
      exact o6
  · rintro σ' W' H' ⟨a, b, e1, ss, ow⟩
    obtain ⟨W7, s7, e7, _⟩ := ss.release (n := 1) ow rfl
    try dsimp only
    have hR := mo.rows 3
    refine s_ret1 (e_join e_str (e_var rfl) (join_fit hR.1 (by rw [one_nl]; omega))) s7 e fun v W8 H8 z8 rv => k _ _ _ _ rfl z8 rv
end K11
/-! K11ZM: whole_in. -/
namespace K11
open PySem PySem.Spec PyProof.Rows
open L2
section
variable {K : PySem.W.Frag} {T : List (Addr × Str)} {P : List Addr} {B : Hp} {δ : List Sl} {te : TE}
/-- the sign at i, as a text -/
def chS (x : Str) (i : Nat) : Str := ⟨#[x.cps.toList.getD i 0]⟩
theorem io_str {x : Str} (h : E1 K T P B te δ (.str x)) : Io1 K T P B (iStr te) δ x.length (fun i => .str (chS x i)) := fun σ W R H1 e Rr q => h σ W R H1 e _ fun d v W2 H2 hd z rv => by
  subst hd
  cases rp_str rv
  refine ⟨x, rfl, q _ W2 H2 _ _ ⟨rfl, rfl⟩ z ⟨fun H3 e => Nat.le_refl _, fun i H3 hi e => hi, fun i W3 H3 y H4 hi e e3 hy => ?_⟩⟩
  obtain ⟨rfl, c, hc, rfl⟩ := hy
  refine ⟨_, Vw.same e3, ?_⟩
  show V.str _ = V.str _
  unfold chS
  rw [List.getD_eq_getElem?_getD, Array.getElem?_toList, hc]
  rfl
theorem o_inSg {c : Nat} {x : Str} : Ro K T rInS (.str ⟨#[c]⟩) (.str x) (fun d => d = .bl (decide (c ∈ x.cps.toList))) := by
  rintro W v w W1 H1 _ e rfl rfl Q q
  exact ⟨c, x, rfl, rfl, q _ _ _ H1 rfl (Vw.same e) rp_b⟩
end
theorem fig_list : ("0123456789" : Str).cps.toList = [48, 49, 50, 51, 52, 53, 54, 55, 56, 57] := by decide +kernel
def dig (c : Nat) : Bool := decide (c ∈ ("0123456789" : Str).cps.toList)
/-- is the word a whole number of one to five figures, no 0 ahead? -/
def wholeB (x : Str) : Bool := (decide (1 ≤ x.length) && decide (x.length ≤ 5)) && (x.cps.toList.all dig && !(decide (chS x 0 = ("0" : Str)) && !decide (x = ("0" : Str))))
def wholeV (x : Str) : Int := ((NumText.digitsVal x.cps.toList : Nat) : Int)
def wholeD (x : Str) (lo hi : Int) : D := if wholeB x = true then (if lo ≤ wholeV x ∧ wholeV x ≤ hi then .int (wholeV x) else .non) else .non
variable {PP : Program} {w : World} {K : PySem.W.Frag} {T : List (Addr × Str)} {P : List Addr} {mg : Str → Option Value} {base : Heap} {aP aS aW c p0 : Addr}
theorem sc_whole_in : FnScope ["word", "low", "high", "sign"] ["word", "low", "high"] (defScope (topS 30)) := ⟨rfl, rfl, rfl, by decide +kernel, rfl, by decide +kernel, by decide +kernel⟩
abbrev sp_whole (K : PySem.W.Frag) (T : List (Addr × Str)) (P : List Addr) : Sp := spF K T P (ι := Str × Int × Int) (fun i => [.str i.1, .int i.2.1, .int i.2.2]) (fun i => i.1.length ≤ 20000) (fun i d => d = wholeD i.1 i.2.1 i.2.2)
theorem ok_whole {f : Addr} {fd : FuncData} (TT : Tx K mg) (GG : Gx K mg aP aS aW) (hP : p0 ∈ P) (hd : ∀ q ∈ T, q.1 ≠ p0) (F : DfnT K mg base "whole_in" 30 ["word", "low", "high"] f fd c p0) :
    FnOk PP w K mg base CX0 5 f fd ["word", "low", "high"] (sp_whole K T P) := by
  refine F.ok sc_whole_in (spF_len fun _ => rfl) fun A outer s H vs Q XE hr h => ?_
  obtain ⟨⟨x, lo, hi⟩, W, e, r, g, hx, k⟩ := h
  dsimp only at hx k r
  refine ⟨_, (pss_cons (ps_if (PW.pt (pw_or (pt_not (pt_chain op_le op_le pe_int (pe_callB (lenK K) (by rfl) TT.b_len (by decide +kernel) (pa_cons (pv 0) pa_nil)) pe_int)) (pw_or (pt_not (pt_val (pe_allG (k := 1) (own := [("sign", 3)]) (g := gName 3) hr rfl sc_whole_in.nd (by rfl) TT.b_all F.tb rfl (pi_str (pv 0)) (gnOk_by (by rfl)) (fun _ _ _ _ _ _ _ => pg_name (i := 3) sc_whole_in.nd rfl (Or.inl rfl)) (fun _ _ _ _ _ _ _ hr2 => pe_cmpR op_inS (pv 3) (pe_globS (by rfl) GG.g_FIGURES) (by rfl))))) (pw_or1 (PW.pt (pw_and (pt_cmpR op_eq (pe_ix ix_str (pv 0) pe_int (fun _ _ => rfl)) pe_str (nomark _)) (pw_and1 (pt_cmpR op_ne (pv 0) pe_str (nomark _)))))))))
      (pss_one (ps_ret pe_non))
      pss_nil)
      (pss_one (ps_ret (pe_ifExp (pt_chain op_le op_le (pv 1) (pe_callTy call_int_str (by rfl) TT.b_int (by decide +kernel) (pa_cons (pv 0) pa_nil)) (pv 2)) (pe_callTy call_int_str (by rfl) TT.b_int (by decide +kernel) (pa_cons (pv 0) pa_nil)) pe_non)))), ?_⟩
  have s0 := ss_start (N := ["word", "low", "high", "sign"]) e r g
  have c1 : decide ((1 : Int) ≤ (x.length : Int)) = decide (1 ≤ x.length) := decide_eq_decide.mpr (by omega)
  have c5 : decide ((x.length : Int) ≤ 5) = decide (x.length ≤ 5) := decide_eq_decide.mpr (by omega)
  have hsz : x.cps.toList.length = x.length := by simp [Str.length]
  have hall : (List.range x.length).all (fun i => dig (x.cps.toList.getD i 0)) = x.cps.toList.all dig := by
    rw [← hsz]
    generalize x.cps.toList = l
    have q : (List.range l.length).map (fun i => l.getD i 0) = l := by
      apply List.ext_getElem
      · simp
      · intro i h1 h2
        simp only [List.getElem_map, List.getElem_range]
        rw [List.getD_eq_getElem?_getD, List.getElem?_eq_getElem h2]
        rfl
    conv => rhs; rw [← q]
    rw [List.all_map]
    rfl
  have ht : Et1 K T P W (tOr (tNot (tTest (tChain (rI0 fun i j => .bl (decide (i ≤ j))) (rI0 fun i j => .bl (decide (i ≤ j))) (tC (.int 1)) (tCB (fun xs H Q => ∃ x n, xs = [x] ∧ LenV K x H n ∧ Q (.int n) H) (tCons (tVar 0) tNil)) (tC (.int 5))))) (tOr (tNot (tB (tAllG p0 (iStr (tVar 0)) (gName 3) (tOp rInS (tVar 3) (tC (.str "0123456789"))) [3]))) (tAnd (tTest (tOp rEq (tOp rIxS (tVar 0) (tC (.int 0))) (tC (.str "0")))) (tTest (tOp rNe (tVar 0) (tC (.str "0")))))))
      [.d (.str x), .d (.int lo), .d (.int hi), .no] (!wholeB x) := by
    refine Et1.is (t_or1 (k := !(decide (1 ≤ x.length) && decide (x.length ≤ 5))) (l := !(x.cps.toList.all dig && !(decide (chS x 0 = ("0" : Str)) && !decide (x = ("0" : Str))))) (t_not1 (t_t (E1.is (e_chain e_int (e_lenS (e_var rfl) (by omega)) o_le (fun _ => e_int) fun _ => o_le) (by rw [c1, c5])))) fun hk => ?_) ?_
    · have h15 : 1 ≤ x.length ∧ x.length ≤ 5 := by
        simp at hk
        exact hk
      refine Et1.is (t_or1 (k := !x.cps.toList.all dig) (l := decide (chS x 0 = ("0" : Str)) && !decide (x = ("0" : Str))) (t_not1 (t_b (E1.is (e_allG (t := fun i => dig (x.cps.toList.getD i 0)) (δ' := fun i => [.d (.str x), .d (.int lo), .d (.int hi), .d (.str (chS x i))]) hP hd (io_str (e_var rfl)) (fun i hi => tg_name) fun i hi => e_op (e_var rfl) e_str o_inSg) (by rw [hall])))) fun _ => t_and1 (t_t (e_op (e_op (e_var rfl) e_int (o_ixS (c := x.cps.toList.getD 0 0) (by omega) ?_)) e_str o_eqS)) fun _ => t_t (e_op (e_var rfl) e_str o_neS)) ?_
      · show atI x.cps.toList ((0 : Nat) : Int) = _
        exact atI_nat (by rw [List.getD_eq_getElem?_getD, List.getElem?_eq_getElem (by omega)]; rfl)
      · cases x.cps.toList.all dig <;> cases decide (chS x 0 = ("0" : Str)) <;> cases decide (x = ("0" : Str)) <;> rfl
    · unfold wholeB
      cases decide (1 ≤ x.length) <;> cases decide (x.length ≤ 5) <;> cases (x.cps.toList.all dig && !(decide (chS x 0 = ("0" : Str)) && !decide (x = ("0" : Str)))) <;> rfl
  refine s_if1 ht s0 (fun hb H1 e1 s1 => ?_) (fun hb H1 e1 s1 => ?_)
  · have hw : wholeB x = false := by
      cases q : wholeB x with
      | false => rfl
      | true =>
        rw [q] at hb
        cases hb
    refine s_ret1 (d := .non) e_non s1 e fun v W' H2 z rv => k _ _ _ _ ?_ z rv
    unfold wholeD
    rw [hw, if_neg Bool.false_ne_true]
  · have hw : wholeB x = true := by
      cases q : wholeB x with
      | true => rfl
      | false =>
        rw [q] at hb
        cases hb
    try unfold tNext
    try dsimp only
    have hn : PySem.intText? x = some (wholeV x) ∧ x.length ≤ 640 := by
      unfold wholeB at hw
      rw [Bool.and_eq_true, Bool.and_eq_true, Bool.and_eq_true] at hw
      obtain ⟨⟨h1, h5⟩, hdg, _⟩ := hw
      have h1 := of_decide_eq_true h1
      have h5 := of_decide_eq_true h5
      refine ⟨intText_digits (fun c hc => ?_) (fun h0 => ?_) (by omega), by omega⟩
      · have q := (List.all_eq_true.mp hdg) c hc
        have q2 := of_decide_eq_true q
        rw [fig_list] at q2
        simp only [List.mem_cons, List.not_mem_nil, or_false] at q2
        omega
      · rw [h0] at hsz
        simp at hsz
        omega
    refine s_ret1 (d := wholeD x lo hi) ?_ s1 e fun v W' H2 z rv => k _ _ _ _ rfl z rv
    have ei : ∀ {B : Hp}, E1 K T P B (tCB (fun xs H Q => ∃ a n, xs = [.str a] ∧ PySem.intText? a = some n ∧ a.length ≤ 640 ∧ Q (.int n) H) (tCons (tVar 0) tNil)) [.d (.str x), .d (.int lo), .d (.int hi), .no] (.int (wholeV x)) := fun {B} => e_cb (a_1 (e_var rfl)) (c_intS hn.1 hn.2)
    unfold wholeD
    rw [if_pos hw]
    refine e_if (C' := fun b => b = (decide (lo ≤ wholeV x) && decide (wholeV x ≤ hi))) (t_t (e_chain (e_var rfl) ei o_le (fun _ => e_var rfl) fun _ => o_le)) (fun hb => ?_) (fun hb => ?_)
    · have hb := hb.symm
      rw [Bool.and_eq_true] at hb
      rw [if_pos ⟨of_decide_eq_true hb.1, of_decide_eq_true hb.2⟩]
      exact ei
    · rw [if_neg]
      · exact e_non
      · rintro ⟨a1, a2⟩
        rw [decide_eq_true a1, decide_eq_true a2] at hb
        cases hb
end K11
/-! K11ZN: number_at. -/
namespace K11
open PySem PySem.Spec PyProof.Rows
open L2
variable {PP : Program} {w : World} {K : PySem.W.Frag} {T : List (Addr × Str)} {P : List Addr} {mg : Str → Option Value} {base : Heap} {C fI c0 p0 : Addr} {fdI : FuncData}
theorem sc_number_at : FnScope ["words", "place", "high", "at", "found"] ["words", "place", "high", "at"] (defScope (topS 34)) := ⟨rfl, rfl, rfl, by decide +kernel, rfl, by decide +kernel, by decide +kernel⟩
/-- what number_at finds -/
def numAt (ws : List Str) (pl : Nat) (hi : Int) : D := if pl < ws.length then wholeD (ws.getD pl Str.empty) 0 hi else .non
abbrev sp_numat (K : PySem.W.Frag) (T : List (Addr × Str)) (P : List Addr) (C : Addr) : Sp := spX K T P C (ι := List Str × Nat × Int × Int) (fun i => [strsD i.1, .int (i.2.1 : Int), .int i.2.2.1, .int i.2.2.2]) (fun i => ∀ x ∈ i.1, x.length ≤ 20000)
  (fun i d => d = numAt i.1 i.2.1 i.2.2.1 ∧ isN d = false) (fun i l p => isN (numAt i.1 i.2.1 i.2.2.1) = true ∧ l = i.2.2.2 ∧ p = (i.2.1 : Int) + 1)
theorem ok_numat {f f1 : Addr} {fd fd1 : FuncData} (TT : Tx K mg) (BL : BLx K mg C fI fdI) (F : Dfn K mg "number_at" 34 ["words", "place", "high", "at"] f fd)
    (D_whole_in : DfnT K mg base "whole_in" 30 ["word", "low", "high"] f1 fd1 c0 p0) (G_whole_in : FnOk PP w K mg base CX0 5 f1 fd1 ["word", "low", "high"] (sp_whole K T P)) :
    FnOk PP w K mg base (L2.CX PP w) 6 f fd ["words", "place", "high", "at"] (sp_numat K T P C) := by
  refine F.okX sc_number_at (spX_len fun _ => rfl) fun cdv A outer s H vs Q XE hr h => ?_
  obtain ⟨⟨ws, pl, hi, at'⟩, W, e, r, g, hws, k, kx⟩ := h
  dsimp only at hws k kx r
  refine ⟨_, (pss_cons (ps_set (i := 4) sc_number_at.nd rfl (Or.inl rfl) (pe_ifExp (pt_cmpR op_lt (pv 1) (pe_callB (lenK K) (by rfl) TT.b_len (by decide +kernel) (pa_cons (pv 0) pa_nil)) (nomark _)) (pe_call G_whole_in (hr.mono (by decide)) (by rfl) D_whole_in.mg D_whole_in.kp D_whole_in.b .nil pass0 (pa_cons (pe_ix (ixL K) (pv 0) (pv 1) (fun _ _ => rfl)) (pa_cons pe_int (pa_cons (pv 2) pa_nil)))) pe_non))
      (pss_cons (ps_if (pt_cmpR op_isN (pv 4) pe_non (nomark _))
      (pss_one (L2.ps_raise rfl (takes_of rfl rfl rfl rfl) (pmk_oex BL.T BL.iC BL.tI (ok_init BL) (hr.mono (by decide)) BL.b .nil pass0 (by rfl) BL.mg (pa_cons (pv 3) (pa_cons (pe_op op_add (pv 1) pe_int) pa_nil)))))
      pss_nil)
      (pss_one (ps_ret (pv 4))))), ?_⟩
  have s0 := ss_start (N := ["words", "place", "high", "at", "found"]) e r g
  have lw : (ws.map D.str).length = ws.length := len_map ..
  refine s_asg1 (d := numAt ws pl hi) (e_if (C' := fun b => b = decide (pl < ws.length)) ((t_t (e_op (e_var rfl) (e_lenL (e_var rfl)) o_lt)).imp fun b hb => ?_) (fun hb => ?_) (fun hb => ?_)) s0 fun v1 W1 H1 z1 s1 => ?_
  · rw [hb, lw]
    exact decide_eq_decide.mpr (by omega)
  · have hlt := of_decide_eq_true hb.symm
    unfold numAt
    rw [if_pos hlt]
    refine e_call (ws.getD pl Str.empty, 0, hi) (a_3 (e_op (e_var rfl) (e_var rfl) (o_ixL (atI_nat ?_))) e_int (e_var rfl)) (hws _ (getD_mem hlt))
    rw [List.getElem?_map, List.getElem?_eq_getElem hlt, List.getD_eq_getElem?_getD, List.getElem?_eq_getElem hlt]
    rfl
  · have hlt := of_decide_eq_false hb.symm
    unfold numAt
    rw [if_neg hlt]
    exact e_non
  try dsimp only
  refine s_if1 (t_t (e_op (e_var rfl) e_non o_isN)) s1 (fun hb H2 e2 s2 => ?_) (fun hb H2 e2 s2 => ?_)
  · exact s_raiseBL (a_2 (e_var rfl) (e_op (e_var rfl) e_int o_add)) s2 fun dx H' ex hx => kx _ _ dx H' ⟨hb, rfl, rfl⟩ ex hx
  · try unfold tNext
    try dsimp only
    exact s_ret1 (e_var rfl) s2 e fun v W' H2 z rv => k _ _ _ _ ⟨rfl, hb⟩ z rv
end K11
/-! K11ZO: instruction_in. -/
namespace K11
open PySem PySem.Spec PyProof.Rows
open L2
section
variable {K : PySem.W.Frag} {T : List (Addr × Str)} {P : List Addr} {B : Hp} {δ : List Sl} {te : TE} {A : D → Prop} {W W0 H H1 : Hp} {σ : L2.St} {D0 : Ends}
theorem s_dropA (h : E K T P B te δ A) (s : SS K T P B W0 H W H1 δ σ) (k : ∀ d, A d → ∀ W' H2, Vw K T W H1 W' H2 → SS K T P B W0 H W' H2 δ σ → D0.nx σ H2) : tDrop te D0 σ H1 :=
  h σ W s.r H1 s.y.to _ fun d v W' H2 hd z rv => k d hd W' H2 z (s.step z.vv)
end
/-- the number that a word writes, from 0 to hi -/
def whN (x : Str) (hi : Int) : Option Int := if wholeB x = true ∧ wholeV x ≤ hi then some (wholeV x) else none
def numP (ws : List Str) (pl : Nat) (hi : Int) : Option Int := if pl < ws.length then whN (ws.getD pl Str.empty) hi else none
def optD : Option Int → D
  | some n => .int n
  | none => .non
theorem wholeV_0 (x : Str) : 0 ≤ wholeV x := by
  unfold wholeV
  omega
theorem whole_opt (x : Str) (hi : Int) : wholeD x 0 hi = optD (whN x hi) := by
  unfold wholeD whN
  have h0 := wholeV_0 x
  by_cases h1 : wholeB x = true
  · by_cases h2 : wholeV x ≤ hi
    · rw [if_pos h1, if_pos ⟨h0, h2⟩, if_pos ⟨h1, h2⟩]
      rfl
    · rw [if_pos h1, if_neg fun z => h2 z.2, if_neg fun z => h2 z.2]
      rfl
  · rw [if_neg h1, if_neg fun z => h1 z.1]
    rfl
theorem numAt_opt (ws : List Str) (pl : Nat) (hi : Int) : numAt ws pl hi = optD (numP ws pl hi) := by
  unfold numAt numP
  split
  · exact whole_opt _ _
  · rfl
theorem isN_opt (o : Option Int) : isN (optD o) = o.isNone := by cases o <;> rfl
def o0Of (x : Str) : Option O0 := if x = "say" then some .say else if x = "ask" then some .ask else if x = "stop" then some .stop else if x = "wait" then some .wait else none
def o1Of (x : Str) : Option O1 := if x = "get" then some .get else if x = "plus" then some .plus else if x = "minus" then some .minus else if x = "add" then some .add else if x = "take" then some .take else if x = "put" then some .put else if x = "zero" then some .zero else if x = "go" then some .go else none
/-- the instruction that the words of a line tell, or the place of the word that cannot stand -/
def insP (ws : List Str) : Except Nat Ins :=
  match o0Of (ws.getD 0 Str.empty) with
  | some o => if 1 < ws.length then .error 2 else .ok (.z o)
  | none => match o1Of (ws.getD 0 Str.empty) with
    | some o => match numP ws 1 (o.top 6000) with
      | some n => if 2 < ws.length then .error 3 else .ok (.u o n)
      | none => .error 2
    | none => .error 1
theorem am_cons (x y : Str) (l : List Str) : amS x (y :: l) = (decide (x = y) || amS x l) := by
  unfold amS inV
  rw [List.map_cons, List.any_cons]
  congr 1
  show eqV (.str y) (.str x) = _
  by_cases h : x = y
  · rw [decide_eq_true h, h]
    simp [eqV]
  · rw [decide_eq_false h]
    simp [eqV, Ne.symm h]
theorem am_nil (x : Str) : amS x [] = false := rfl
theorem o0_nm {x : Str} {o : O0} (h : o0Of x = some o) : x = o.nm := by
  unfold o0Of at h
  split at h
  · cases h; assumption
  split at h
  · cases h; assumption
  split at h
  · cases h; assumption
  split at h
  · cases h; assumption
  · cases h
theorem o1_nm {x : Str} {o : O1} (h : o1Of x = some o) : x = o.nm := by
  unfold o1Of at h
  split at h
  · cases h; assumption
  split at h
  · cases h; assumption
  split at h
  · cases h; assumption
  split at h
  · cases h; assumption
  split at h
  · cases h; assumption
  split at h
  · cases h; assumption
  split at h
  · cases h; assumption
  split at h
  · cases h; assumption
  · cases h
theorem am_0 (x : Str) : amS x ["say", "ask", "stop", "wait"] = (o0Of x).isSome := by
  rw [am_cons, am_cons, am_cons, am_cons, am_nil]
  unfold o0Of
  by_cases h1 : x = "say"
  · rw [if_pos h1, decide_eq_true h1]
    rfl
  rw [if_neg h1, decide_eq_false h1]
  by_cases h2 : x = "ask"
  · rw [if_pos h2, decide_eq_true h2]
    rfl
  rw [if_neg h2, decide_eq_false h2]
  by_cases h3 : x = "stop"
  · rw [if_pos h3, decide_eq_true h3]
    rfl
  rw [if_neg h3, decide_eq_false h3]
  by_cases h4 : x = "wait"
  · rw [if_pos h4, decide_eq_true h4]
    rfl
  rw [if_neg h4, decide_eq_false h4]
  rfl
theorem am_5 {x : Str} {o : O1} (h : o1Of x = some o) : amS x ["get", "plus", "minus", "add", "take"] = (isSee o || isWr o) ∧ decide (x = ("put" : Str)) = isPut o ∧ amS x ["zero", "go"] = isJmp o := by
  rw [o1_nm h]
  cases o <;> decide +kernel
theorem am_no {x : Str} (h : o1Of x = none) : amS x ["get", "plus", "minus", "add", "take"] = false ∧ decide (x = ("put" : Str)) = false ∧ amS x ["zero", "go"] = false := by
  unfold o1Of at h
  split at h
  · cases h
  split at h
  · cases h
  split at h
  · cases h
  split at h
  · cases h
  split at h
  · cases h
  split at h
  · cases h
  split at h
  · cases h
  split at h
  · cases h
  simp only [am_cons, am_nil, Bool.or_false, Bool.or_eq_false_iff, decide_eq_false_iff_not]
  simp only [*, not_false_eq_true, and_self]
variable {PP : Program} {w : World} {K : PySem.W.Frag} {T : List (Addr × Str)} {P : List Addr} {mg : Str → Option Value} {base : Heap} {C fI aP aS aW : Addr} {fdI : FuncData}
theorem sc_instruction_in : FnScope ["words", "at", "word", "found"] ["words", "at"] (defScope (topS 40)) := ⟨rfl, rfl, rfl, by decide +kernel, rfl, by decide +kernel, by decide +kernel⟩
abbrev sp_insin (K : PySem.W.Frag) (T : List (Addr × Str)) (P : List Addr) (C : Addr) : Sp := spX K T P C (ι := List Str × Int) (fun i => [strsD i.1, .int i.2]) (fun i => 1 ≤ i.1.length ∧ ∀ x ∈ i.1, x.length ≤ 20000)
  (fun i d => ∃ q, insP i.1 = .ok q ∧ d = q.d) (fun i l p => ∃ q, insP i.1 = .error q ∧ l = i.2 ∧ p = (q : Int))
theorem ok_insin {f f1 f2 : Addr} {fd fd1 fd2 : FuncData} (TT : Tx K mg) (GG : Gx K mg aP aS aW) (BL : BLx K mg C fI fdI) (F : Dfn K mg "instruction_in" 40 ["words", "at"] f fd)
    (D_number_at : Dfn K mg "number_at" 34 ["words", "place", "high", "at"] f1 fd1) (G_number_at : FnOk PP w K mg base (L2.CX PP w) 6 f1 fd1 ["words", "place", "high", "at"] (sp_numat K T P C))
    (D_need_end : Dfn K mg "need_end" 35 ["words", "many", "at"] f2 fd2) (G_need_end : FnOk PP w K mg base (L2.CX PP w) 3 f2 fd2 ["words", "many", "at"] (sp_nend K T P C)) :
    FnOk PP w K mg base (L2.CX PP w) 7 f fd ["words", "at"] (sp_insin K T P C) := by
  refine F.okX sc_instruction_in (spX_len fun _ => rfl) fun cdv A outer s H vs Q XE hr h => ?_
  obtain ⟨⟨ws, at'⟩, W, e, r, g, ⟨h1, hws⟩, k, kx⟩ := h
  dsimp only at h1 hws k kx r
  refine ⟨_, (pss_cons (ps_set (i := 2) sc_instruction_in.nd rfl (Or.inl rfl) (pe_ix (ixL K) (pv 0) pe_int (fun _ _ => rfl)))
      (pss_cons (ps_if (pt_cmpR (inK K) (pv 2) (pe_tup (pa_cons pe_str (pa_cons pe_str (pa_cons pe_str (pa_cons pe_str pa_nil))))) (by rfl))
      (pss_cons (ps_expr (pe_callS G_need_end (hr.mono (by decide)) (by rfl) D_need_end.mg D_need_end.kp D_need_end.b (fun σ => passAt (takes_of rfl rfl rfl rfl) σ) (pa_cons (pv 0) (pa_cons pe_int (pa_cons (pv 1) pa_nil)))))
      (pss_one (ps_ret (pe_tup (pa_cons (pv 2) pa_nil)))))
      pss_nil)
      (pss_cons (ps_if (pt_cmpR (inK K) (pv 2) (pe_op (catAK K) (pe_glob (v := .ref aS) (by rfl) GG.g_SIGHTS rfl) (pe_glob (v := .ref aW) (by rfl) GG.g_WRITES rfl)) (by rfl))
      (pss_one (ps_set (i := 3) sc_instruction_in.nd rfl (Or.inl rfl) (pe_callS G_number_at (hr.mono (by decide)) (by rfl) D_number_at.mg D_number_at.kp D_number_at.b (fun σ => passAt (takes_of rfl rfl rfl rfl) σ) (pa_cons (pv 0) (pa_cons pe_int (pa_cons pe_int (pa_cons (pv 1) pa_nil)))))))
      (pss_one (ps_if (pt_cmpR op_eq (pv 2) pe_str (nomark _))
      (pss_one (ps_set (i := 3) sc_instruction_in.nd rfl (Or.inl rfl) (pe_callS G_number_at (hr.mono (by decide)) (by rfl) D_number_at.mg D_number_at.kp D_number_at.b (fun σ => passAt (takes_of rfl rfl rfl rfl) σ) (pa_cons (pv 0) (pa_cons pe_int (pa_cons pe_int (pa_cons (pv 1) pa_nil)))))))
      (pss_one (ps_if (pt_cmpR (inK K) (pv 2) (pe_tup (pa_cons pe_str (pa_cons pe_str pa_nil))) (by rfl))
      (pss_one (ps_set (i := 3) sc_instruction_in.nd rfl (Or.inl rfl) (pe_callS G_number_at (hr.mono (by decide)) (by rfl) D_number_at.mg D_number_at.kp D_number_at.b (fun σ => passAt (takes_of rfl rfl rfl rfl) σ) (pa_cons (pv 0) (pa_cons pe_int (pa_cons (pe_globI (by rfl) GG.g_MOST_KEPT) (pa_cons (pv 1) pa_nil)))))))
      (pss_one (L2.ps_raise rfl (takes_of rfl rfl rfl rfl) (pmk_oex BL.T BL.iC BL.tI (ok_init BL) (hr.mono (by decide)) BL.b .nil pass0 (by rfl) BL.mg (pa_cons (pv 1) (pa_cons pe_int pa_nil))))))))))
      (pss_cons (ps_expr (pe_callS G_need_end (hr.mono (by decide)) (by rfl) D_need_end.mg D_need_end.kp D_need_end.b (fun σ => passAt (takes_of rfl rfl rfl rfl) σ) (pa_cons (pv 0) (pa_cons pe_int (pa_cons (pv 1) pa_nil)))))
      (pss_one (ps_ret (pe_tup (pa_cons (pv 2) (pa_cons (pv 3) pa_nil))))))))), ?_⟩
  have s0 := ss_start (N := ["words", "at", "word", "found"]) e r g
  have h0 : atI (ws.map D.str) ((0 : Nat) : Int) = some (.str (ws.getD 0 Str.empty)) := atI_nat (by rw [List.getElem?_map, List.getElem?_eq_getElem (by omega), List.getD_eq_getElem?_getD, List.getElem?_eq_getElem (by omega)]; rfl)
  refine s_asg1 (d := .str (ws.getD 0 Str.empty)) (e_op (e_var rfl) e_int (o_ixL h0)) s0 fun v1 W1 H1 z1 s1 => ?_
  try dsimp only
  generalize hx : ws.getD 0 Str.empty = x at s1
  have s1 : SS K T P W W H W1 H1 [.d (strsD ws), .d (.int at'), .d (.str x), .no] _ := s1
  refine s_if1 (Et1.is (t_t (e_op (e_var rfl) (e_tup (a_cons e_str (a_3 e_str e_str e_str))) (o_inST ["say", "ask", "stop", "wait"]))) (am_0 x)) s1 (fun hb H2 e2 s2 => ?_) (fun hb H2 e2 s2 => ?_)
  · obtain ⟨o, ho⟩ := Option.isSome_iff_exists.mp hb
    have hp : insP ws = if 1 < ws.length then .error 2 else .ok (.z o) := by
      unfold insP
      rw [hx, ho]
    refine s_dropA (e_callX (ws, 1, at') (a_3 (e_var rfl) e_int (e_var rfl)) trivial fun l p dx H' σ he ex hd => ?_) s2 fun d hd W3 H3 z3 s3 => ?_
    · obtain ⟨rfl, h2, rfl⟩ := he
      exact kx _ _ _ _ ⟨2, by rw [hp, if_pos h2], rfl, rfl⟩ ex hd
    · try dsimp only
      obtain ⟨rfl, hle⟩ := hd
      refine s_ret1 (e_tup (a_1 (e_var rfl)) (hl := by show 1 ≤ 100000; omega)) s3 e fun v W' H2 z rv => k _ _ _ _ ⟨.z o, ?_, ?_⟩ z rv
      · rw [hp, if_neg]
        have hle : ws.length ≤ 1 := hle
        omega
      · rw [o0_nm ho]
        rfl
  try unfold tNext
  try dsimp only
  have hn0 : o0Of x = none := by
    cases q : o0Of x with
    | none => rfl
    | some o =>
      rw [q] at hb
      cases hb
  -- a number's word
  have num : ∀ (o : O1) (D0 : Ends) (W2 H2 : Hp) (σ2 : L2.St) {te : TE}, o1Of x = some o → SS K T P W W H W2 H2 [.d (strsD ws), .d (.int at'), .d (.str x), .no] σ2 → (∀ {B : Hp}, E1 K T P B te [.d (strsD ws), .d (.int at'), .d (.str x), .no] (.int (o.top 6000))) →
      (∀ n v W' H', numP ws 1 (o.top 6000) = some n → SS K T P W W H W' H' [.d (strsD ws), .d (.int at'), .d (.str x), .d (.int n)] v → D0.nx v H') →
      tAsg (tCallS (sp_numat K T P C) (fun σ => WE (fun cls d σ H => XE cls d H) σ) (tCons (tVar 0) (tCons (tC (.int 1)) (tCons te (tCons (tVar 1) tNil))))) (gName 3) D0 σ2 H2 := by
    intro o D0 W2 H2 σ2 te ho s2 ht kk
    refine s_asg (e_callX (ws, 1, o.top 6000, at') (a_cons (e_var rfl) (a_3 e_int ht (e_var rfl))) hws fun l p dx H' σ he ex hd => ?_) s2 fun d v W3 H3 hd z3 s3 => ?_
    · obtain ⟨h1, rfl, rfl⟩ := he
      rw [numAt_opt, isN_opt] at h1
      refine kx _ _ _ _ ⟨2, ?_, rfl, rfl⟩ ex hd
      unfold insP
      rw [hx, hn0, ho]
      try dsimp only
      cases q : numP ws 1 (o.top 6000) with
      | none => rfl
      | some n =>
        rw [q] at h1
        cases h1
    · obtain ⟨rfl, h2⟩ := hd
      rw [numAt_opt, isN_opt] at h2
      have h2' : (numP ws 1 (o.top 6000)).isNone = false := h2
      cases q : numP ws 1 (o.top 6000) with
      | none =>
        rw [q] at h2'
        cases h2'
      | some n =>
        refine kk n _ W3 H3 q ?_
        have e3 : numAt ws 1 (o.top 6000) = .int n := by
          rw [numAt_opt, q]
          rfl
        rw [← e3]
        exact s3
  have am : ∀ o, o1Of x = some o → amS x ["get", "plus", "minus", "add", "take"] = (isSee o || isWr o) ∧ decide (x = ("put" : Str)) = isPut o ∧ amS x ["zero", "go"] = isJmp o := fun o ho => am_5 ho
  have fin : ∀ (o : O1) (n : Int) (D0 : Ends) (W2 H2 : Hp) (σ2 : L2.St), o1Of x = some o → numP ws 1 (o.top 6000) = some n → SS K T P W W H W2 H2 [.d (strsD ws), .d (.int at'), .d (.str x), .d (.int n)] σ2 → D0.rt = Q →
      tDrop (tCallS (sp_nend K T P C) (fun σ => WE (fun cls d σ H => XE cls d H) σ) (tCons (tVar 0) (tCons (tC (.int 2)) (tCons (tVar 1) tNil)))) { D0 with nx := fun σ3 H3 => tRet (tTup (tCons (tVar 2) (tCons (tVar 3) tNil))) D0 σ3 H3 } σ2 H2 := by
    intro o n D0 W2 H2 σ2 ho hq s2 hD
    have hp : insP ws = if 2 < ws.length then .error 3 else .ok (.u o n) := by
      unfold insP
      rw [hx, hn0, ho]
      try dsimp only
      rw [hq]
    refine s_dropA (e_callX (ws, 2, at') (a_3 (e_var rfl) e_int (e_var rfl)) trivial fun l p dx H' σ he ex hd => ?_) s2 fun d hd W3 H3 z3 s3 => ?_
    · obtain ⟨rfl, h2, rfl⟩ := he
      exact kx _ _ _ _ ⟨3, by rw [hp, if_pos h2], rfl, rfl⟩ ex hd
    · try dsimp only
      obtain ⟨rfl, hle⟩ := hd
      refine s_ret1 (e_tup (a_2 (e_var rfl) (e_var rfl)) (hl := by show 2 ≤ 100000; omega)) s3 e fun v W' H2 z rv => ?_
      rw [hD]
      refine k _ _ _ _ ⟨.u o n, ?_, ?_⟩ z rv
      · rw [hp, if_neg]
        have hle : ws.length ≤ 2 := hle
        omega
      · rw [o1_nm ho]
        rfl
  have hS : ∀ {B : Hp}, E K T P B (tOp (rCatA K) (tC (.ref aS)) (tC (.ref aW))) [.d (strsD ws), .d (.int at'), .d (.str x), .no] (fun d => d = .tup [.str "get", .str "plus", .str "minus", .str "add", .str "take"]) := fun {B} => e_op (e_c GG.d_SIGHTS) (e_c GG.d_WRITES) (o_catT (by decide))
  refine s_if1 (t_t (e_op (e_var rfl) hS (o_inST ["get", "plus", "minus", "add", "take"]))) s2 (fun hb1 H3 e3 s3 => ?_) (fun hb1 H3 e3 s3 => ?_)
  · cases ho : o1Of x with
    | none =>
      rw [(am_no ho).1] at hb1
      cases hb1
    | some o =>
      rw [(am o ho).1] at hb1
      have ht : o.top 6000 = 3 := by cases o <;> first | rfl | cases hb1
      refine num o _ _ _ _ ho s3 (ht ▸ e_int) fun n v W4 H4 hq s4 => ?_
      exact fin o n _ _ _ _ ho hq s4 rfl
  refine s_if1 (t_t (e_op (e_var rfl) e_str o_eqS)) s3 (fun hb2 H4 e4 s4 => ?_) (fun hb2 H4 e4 s4 => ?_)
  · cases ho : o1Of x with
    | none =>
      rw [(am_no ho).2.1] at hb2
      cases hb2
    | some o =>
      rw [(am o ho).2.1] at hb2
      have ht : o.top 6000 = 6 := by cases o <;> first | rfl | cases hb2
      refine num o _ _ _ _ ho s4 (ht ▸ e_int) fun n v W4 H4 hq s4 => ?_
      exact fin o n _ _ _ _ ho hq s4 rfl
  refine s_if1 (t_t (e_op (e_var rfl) (e_tup (a_2 e_str e_str)) (o_inST ["zero", "go"]))) s4 (fun hb3 H5 e5 s5 => ?_) (fun hb3 H5 e5 s5 => ?_)
  · cases ho : o1Of x with
    | none =>
      rw [(am_no ho).2.2] at hb3
      cases hb3
    | some o =>
      rw [(am o ho).2.2] at hb3
      have ht : o.top 6000 = 6000 := by cases o <;> first | rfl | cases hb3
      refine num o _ _ _ _ ho s5 (ht ▸ e_int) fun n v W4 H4 hq s4 => ?_
      exact fin o n _ _ _ _ ho hq s4 rfl
  · refine s_raiseBL (a_2 (e_var rfl) e_int) s5 fun dx H' ex hx' => kx _ _ dx H' ⟨1, ?_, rfl, rfl⟩ ex hx'
    cases ho : o1Of x with
    | some o =>
      obtain ⟨a1, a2, a3⟩ := am o ho
      rw [a1] at hb1
      rw [a2] at hb2
      rw [a3] at hb3
      cases o <;> first | exact absurd hb1 (by decide) | exact absurd hb2 (by decide) | exact absurd hb3 (by decide)
    | none =>
      unfold insP
      rw [hx, hn0, ho]
end K11
/-! K11ZP: need_text; raise BadString(). -/
namespace K11
open PySem PySem.Spec PyProof.Rows
open L2
/-- the class BadString -/
structure BSx (K : PySem.W.Frag) (mg : Str → Option Value) (C : Addr) : Prop where
  x : PySem.W.excIn K C [.type "ValueError", .type "Exception", .type "BaseException", .type "object"] "ValueError.__new__" = true
  mg : mg "BadString" = some (.ref C)
  kp : PySem.W.keepIn K (.ref C) = true
  sb : PySem.W.subIn K (.ref C) (.type "BaseException") = some true
  ty : PySem.W.typeIn K (.ref C) = some (.type "type")
section
variable (K : PySem.W.Frag) (T : List (Addr × Str))
/-- a def that raises the error of the class at C, that has no fields -/
def spB (P : List Addr) (C : Addr) {ι : Type} (args : ι → List D) (pre : ι → Prop) : Sp := fun vs H Q E =>
  ∃ i W, Ex K T W H ∧ RpL K W (args i) vs ∧ Gd T P W ∧ pre i ∧ ∀ H', Ex K T W H' → E (.ref C) none H'
end
theorem spB_len {K : PySem.W.Frag} {T : List (Addr × Str)} {P : List Addr} {C : Addr} {ι : Type} {args : ι → List D} {pre : ι → Prop} {n : Nat} (h : ∀ i, (args i).length = n) : ∀ vs H Q E, spB K T P C args pre vs H Q E → vs.length = n := by
  rintro vs H Q E ⟨i, W, _, r, _⟩
  rw [rpl_len r, h]
section
variable {K : PySem.W.Frag} {T : List (Addr × Str)} {P : List Addr} {B : Hp} {δ : List Sl} {ta : TA} {A C : D → Prop}
/-- a call that raises -/
theorem e_callB {Ca : Addr} {ι : Type} {args : ι → List D} {pre : ι → Prop} {X : L2.St → XK} (n : ι) (h : Ea1 K T P B ta δ (args n)) (hn : pre n) (hx : ∀ H' σ, Ex K T B H' → X σ (.ref Ca) none H') : E K T P B (tCallS (spB K T P Ca args pre) X ta) δ A := fun σ W R H1 e Q q => h σ W R H1 e _ fun ds vs W2 H2 hd z2 rv => by
  subst hd
  exact ⟨n, W2, z2.to, rv, R.g.mono z2.up, hn, fun H' ex => hx H' σ ((R.b.trans z2.up).trans ex)⟩
end
def notS : D → Prop
  | .non => True
  | .int _ => True
  | _ => False
variable {PP : Program} {w : World} {K : PySem.W.Frag} {T : List (Addr × Str)} {P : List Addr} {mg : Str → Option Value} {base : Heap} {C : Addr}
theorem sc_need_text : FnScope ["value"] ["value"] (defScope (topS 31)) := ⟨rfl, rfl, rfl, by decide +kernel, rfl, by decide +kernel, by decide +kernel⟩
abbrev sp_ntS (K : PySem.W.Frag) (T : List (Addr × Str)) (P : List Addr) : Sp := spF K T P (ι := Str) (fun i => [.str i]) (fun _ => True) (fun i d => d = .non)
theorem ok_ntS {f : Addr} {fd : FuncData} (TT : Tx K mg) (F : Dfn K mg "need_text" 31 ["value"] f fd) : FnOk PP w K mg base CX0 1 f fd ["value"] (sp_ntS K T P) := by
  refine F.ok sc_need_text (spF_len fun _ => rfl) fun cdv A outer s H vs Q XE hr h => ?_
  obtain ⟨x, W, e, r, g, -, k⟩ := h
  dsimp only at k r
  refine ⟨_, (pss_one (ps_if (pt_not (pt_val (pe_callB (isiK K) (by rfl) TT.b_isinstance (by decide +kernel) (pa_cons (pv 0) (pa_cons (pe_bltn (v := .ty "str") (u := .type "str") (by rfl) TT.b_str (by decide +kernel) rfl) pa_nil)))))
      (pss_one ps_never)
      pss_nil)), ?_⟩
  have s0 := ss_start (N := ["value"]) e r g
  refine s_if1 (k := false) (t_not1 (k := true) (t_b (e_isi (d := .str x) (e_var rfl) (kS _)))) s0 (fun hb => absurd hb (by decide)) fun _ H1 e1 s1 => ?_
  exact s_end s1 e fun v W' H2 z rv => k _ _ _ _ rfl z rv
abbrev sp_ntX (K : PySem.W.Frag) (T : List (Addr × Str)) (P : List Addr) (C : Addr) : Sp := spB K T P C (ι := D) (fun i => [i]) notS
theorem ok_ntX {f : Addr} {fd : FuncData} (TT : Tx K mg) (BS : BSx K mg C) (F : Dfn K mg "need_text" 31 ["value"] f fd) : FnOk PP w K mg base (L2.CX PP w) 1 f fd ["value"] (sp_ntX K T P C) := by
  refine F.okX sc_need_text (spB_len fun _ => rfl) fun cdv A outer s H vs Q XE hr h => ?_
  obtain ⟨x, W, e, r, g, hx, k⟩ := h
  dsimp only at k r
  refine ⟨_, (pss_one (ps_if (pt_not (pt_val (pe_callB (isiK K) (by rfl) TT.b_isinstance (by decide +kernel) (pa_cons (pv 0) (pa_cons (pe_bltn (v := .ty "str") (u := .type "str") (by rfl) TT.b_str (by decide +kernel) rfl) pa_nil)))))
      (pss_one (L2.ps_raise rfl (takes_of rfl rfl rfl rfl) (pmk_own0 PySem.F.excBase_ValueError BS.x BS.mg BS.kp (raises_own BS.sb BS.ty) (by rfl))))
      pss_nil)), ?_⟩
  have s0 := ss_start (N := ["value"]) e r g
  have kk : kitB (tyD x) "str" = some false := by
    rw [kS]; cases x <;> first | rfl | cases hx
  refine s_if1 (k := true) (t_not1 (k := false) (t_b (e_isi (d := x) (e_var rfl) kk))) s0 (fun _ H1 e1 s1 => ?_) fun hb => absurd hb (by decide)
  exact k H1 (s1.y.up.trans s1.y.to)
end K11
/-! K11ZQ: read_program. -/
namespace K11
open PySem PySem.Spec PyProof.Rows
open L2
abbrev Ln := List Str × Nat
/-! ### what a text tells -/
def insAll : List Ln → Except (Nat × Nat) (List Ins)
  | [] => .ok []
  | x :: r => match insP x.1 with
    | .error p => .error (x.2, p)
    | .ok i => match insAll r with
      | .error e => .error e
      | .ok l => .ok (i :: l)
def goBad (n : Nat) : List Ins → List Ln → Option Nat
  | i :: l, x :: r => if i.jmp = true ∧ (n : Int) < i.n then some x.2 else goBad n l r
  | _, _ => none
theorem goBad_cons {n : Nat} {i : Ins} {l : List Ins} {x : Ln} {r : List Ln} : goBad n (i :: l) (x :: r) = if i.jmp = true ∧ (n : Int) < i.n then some x.2 else goBad n l r := rfl
theorem goBad_nil {n : Nat} {r : List Ln} : goBad n [] r = none := by cases r <;> rfl
def progR (t : Str) : Except (Nat × Nat) (List Ins) :=
  if (linesOf t).length = 0 then .error ((Txt.split t "\n").length + 1, 1)
  else if 6000 < (linesOf t).length then .error (((linesOf t).getD 6000 ([], 0)).2, 1)
  else match insAll (linesOf t) with
    | .error e => .error e
    | .ok l => match goBad l.length l (linesOf t) with
      | some a => .error (a, 2)
      | none => .ok l
theorem insAll_err : ∀ (pre : List Ln) (x : Ln) (post : List Ln) (is : List Ins) (q : Nat), insAll pre = .ok is → insP x.1 = .error q → insAll (pre ++ x :: post) = .error (x.2, q)
  | [], x, post, is, q, _, h => by
    show insAll (x :: post) = _
    unfold insAll
    rw [h]
  | y :: pre, x, post, is, q, h1, h2 => by
    show insAll (y :: (pre ++ x :: post)) = _
    unfold insAll at h1 ⊢
    cases e : insP y.1 with
    | error p =>
      rw [e] at h1
      cases h1
    | ok i =>
      rw [e] at h1
      dsimp only at h1 ⊢
      cases e2 : insAll pre with
      | error p =>
        rw [e2] at h1
        cases h1
      | ok l => rw [insAll_err pre x post l q e2 h2]
theorem insAll_app : ∀ (pre : List Ln) (x : Ln) (is : List Ins) (q : Ins), insAll pre = .ok is → insP x.1 = .ok q → insAll (pre ++ [x]) = .ok (is ++ [q])
  | [], x, is, q, h1, h => by
    cases h1
    show insAll [x] = _
    unfold insAll
    rw [h]
    rfl
  | y :: pre, x, is, q, h1, h2 => by
    show insAll (y :: (pre ++ [x])) = _
    unfold insAll at h1 ⊢
    cases e : insP y.1 with
    | error p =>
      rw [e] at h1
      cases h1
    | ok i =>
      rw [e] at h1
      dsimp only at h1 ⊢
      cases e2 : insAll pre with
      | error p =>
        rw [e2] at h1
        cases h1
      | ok l =>
        rw [e2] at h1
        cases h1
        rw [insAll_app pre x l q e2 h2]
        rfl
theorem insAll_len : ∀ {ls : List Ln} {is : List Ins}, insAll ls = .ok is → is.length = ls.length
  | [], is, h => by
    cases h
    rfl
  | x :: r, is, h => by
    unfold insAll at h
    cases e : insP x.1 with
    | error p =>
      rw [e] at h
      cases h
    | ok i =>
      rw [e] at h
      dsimp only at h
      cases e2 : insAll r with
      | error p =>
        rw [e2] at h
        cases h
      | ok l =>
        rw [e2] at h
        cases h
        rw [List.length_cons, List.length_cons, insAll_len e2]
theorem mem_split_filter {l w : Str} (h : w ∈ wordsOf l) : w.length ≤ l.length := by
  unfold wordsOf at h
  exact PyProof.Rows.part_short (List.mem_filter.mp h).1
theorem linesOf_ok {t : Str} (h : t.length ≤ 20000) : (linesOf t).length ≤ 20002 ∧ ∀ x ∈ linesOf t, 1 ≤ x.1.length ∧ ∀ w ∈ x.1, w.length ≤ 20000 := by
  have hz := PyProof.Rows.split_le t "\n"
  refine ⟨?_, fun x hx => ?_⟩
  · unfold linesOf
    rw [List.length_map]
    exact Nat.le_trans (List.length_filter_le ..) (by rw [List.length_range]; omega)
  · unfold linesOf at hx
    obtain ⟨i, hi, rfl⟩ := List.mem_map.mp hx
    obtain ⟨_, h2⟩ := List.mem_filter.mp hi
    refine ⟨?_, fun w hw => ?_⟩
    · dsimp only
      cases q : wordsOf ((Txt.split t "\n").getD i Str.empty) with
      | nil =>
        rw [q] at h2
        cases h2
      | cons a b => exact Nat.succ_le_succ (Nat.zero_le _)
    · exact Nat.le_trans (mem_split_filter hw) (getD_part h i)
theorem getD_lns {ls : List Ln} {i : Nat} (h : i < ls.length) : (ls.map LnD).getD i .non = LnD (ls.getD i ([], 0)) := by
  rw [List.getD_eq_getElem?_getD, List.getElem?_map, List.getElem?_eq_getElem h, List.getD_eq_getElem?_getD, List.getElem?_eq_getElem h]
  rfl
theorem drop_get {α : Type} (l : List α) (d : α) {i : Nat} (h : i < l.length) : l.drop i = l.getD i d :: l.drop (i + 1) := by
  rw [List.drop_eq_getElem_cons h, List.getD_eq_getElem?_getD, List.getElem?_eq_getElem h]
  rfl
theorem rowD_lns (ls : List Ln) : rowD (ls.map LnD) = false := rowD_nints fun d hd => by
  obtain ⟨_, _, rfl⟩ := List.mem_map.mp hd
  rfl
section
variable {X : Cx} {s3 : Shared} {H3 : Hp} {scope : Scope} {ce : Env} {fp : List Addr} {E : XK}
/-- a call in the element of a comprehension -/
theorem passBlk (σ : L2.St) : PassesAt (L2.CX X.prog X.w) ((X.blk s3 H3 scope ce fp).wish (blkXe X s3 H3 scope ce fp E)) σ E := fun pins H s _ _ I c => ⟨pins, σ, H, s, I.unwish, c⟩
end
variable {PP : Program} {w : World} {K : PySem.W.Frag} {T : List (Addr × Str)} {P : List Addr} {mg : Str → Option Value} {base : Heap} {C fI aP aS aW : Addr} {fdI : FuncData}
theorem sc_read_program : FnScope ["text", "lines", "found", "instruction", "line", "words", "at"] ["text"] (defScope (topS 41)) := ⟨rfl, rfl, rfl, by decide +kernel, rfl, by decide +kernel, by decide +kernel⟩
abbrev sp_rprog (K : PySem.W.Frag) (T : List (Addr × Str)) (P : List Addr) (C : Addr) : Sp := spX K T P C (ι := Str) (fun i => [.str i]) (fun i => i.length ≤ 20000)
  (fun i d => ∃ q, progR i = .ok q ∧ d = progT q) (fun i l p => ∃ a b : Nat, progR i = .error (a, b) ∧ l = (a : Int) ∧ p = (b : Int))
theorem ok_rprog {f f1 f2 f3 : Addr} {fd fd1 fd2 fd3 : FuncData} (TT : Tx K mg) (GG : Gx K mg aP aS aW) (BL : BLx K mg C fI fdI) (F : Dfn K mg "read_program" 41 ["text"] f fd)
    (D_need_text : Dfn K mg "need_text" 31 ["value"] f1 fd1) (G_need_text : FnOk PP w K mg base CX0 1 f1 fd1 ["value"] (sp_ntS K T P))
    (D_lines_in : Dfn K mg "lines_in" 33 ["text"] f2 fd2) (G_lines_in : FnOk PP w K mg base CX0 2 f2 fd2 ["text"] (sp_lines K T P))
    (D_instruction_in : Dfn K mg "instruction_in" 40 ["words", "at"] f3 fd3) (G_instruction_in : FnOk PP w K mg base (L2.CX PP w) 7 f3 fd3 ["words", "at"] (sp_insin K T P C)) :
    FnOk PP w K mg base (L2.CX PP w) 9 f fd ["text"] (sp_rprog K T P C) := by
  refine F.okX sc_read_program (spX_len fun _ => rfl) fun cdv A outer s H vs Q XE hr h => ?_
  obtain ⟨t, W, e, r, g, ht, k, kx⟩ := h
  dsimp only at ht k kx r
  refine ⟨_, (pss_cons (ps_expr (pe_call G_need_text (hr.mono (by decide)) (by rfl) D_need_text.mg D_need_text.kp D_need_text.b .nil pass0 (pa_cons (pv 0) pa_nil)))
      (pss_cons (ps_set (i := 1) sc_read_program.nd rfl (Or.inl rfl) (pe_call G_lines_in (hr.mono (by decide)) (by rfl) D_lines_in.mg D_lines_in.kp D_lines_in.b .nil pass0 (pa_cons (pv 0) pa_nil)))
      (pss_cons (ps_if (pt_not (pt_truK K (pv 1)))
      (pss_one (L2.ps_raise rfl (takes_of rfl rfl rfl rfl) (pmk_oex BL.T BL.iC BL.tI (ok_init BL) (hr.mono (by decide)) BL.b .nil pass0 (by rfl) BL.mg (pa_cons (pe_op op_add (pe_callB (lenK K) (by rfl) TT.b_len (by decide +kernel) (pa_cons (pe_split (pv 0) pe_str) pa_nil)) pe_int) (pa_cons pe_int pa_nil)))))
      pss_nil)
      (pss_cons (ps_if (pt_cmpR op_gt (pe_callB (lenK K) (by rfl) TT.b_len (by decide +kernel) (pa_cons (pv 1) pa_nil)) (pe_globI (by rfl) GG.g_MOST_KEPT) (nomark _))
      (pss_one (L2.ps_raise rfl (takes_of rfl rfl rfl rfl) (pmk_oex BL.T BL.iC BL.tI (ok_init BL) (hr.mono (by decide)) BL.b .nil pass0 (by rfl) BL.mg (pa_cons (pe_ix (ixT K) (pe_ix (ixL K) (pv 1) (pe_globI (by rfl) GG.g_MOST_KEPT) (fun _ _ => rfl)) pe_int (fun _ _ => rfl)) (pa_cons pe_int pa_nil)))))
      pss_nil)
      (pss_cons (ps_setLcX (E := XE) (i := 2) rfl rfl (fun u s' x => x.leave rfl rfl rfl) (by rfl) sc_read_program.nd rfl rfl (sw_true rfl rfl rfl (by decide +kernel)) (g := gTup K 2 (gCons (gName 5) (gCons (gName 6) (gNil)))) (ow := [("words", 5), ("at", 6)]) (piL K (pv 1)) (blkOk_by (own := [("words", 5), ("at", 6)]) (by rfl)) (fun _ _ _ _ _ => (pg_tup (by rfl) (pgs_cons (pg_name (i := 5) sc_read_program.nd rfl (Or.inl rfl)) (pgs_cons (pg_name (i := 6) sc_read_program.nd rfl (Or.inl rfl)) pgs_nil)))) (fun _ _ _ _ _ => pts_nil) (fun _ _ _ _ _ => (pe_callS G_instruction_in (hr.mono (by decide)) (by rfl) D_instruction_in.mg D_instruction_in.kp D_instruction_in.b (fun σ => passBlk σ) (pa_cons (pv 5) (pa_cons (pv 6) pa_nil)))))
      (pss_cons (ps_for PassesOwn.leaving rfl (RZ.pi_zipA (by rfl) TT.b_zip (pa_cons (pv 2) (pa_cons (pv 1) pa_nil))) (pg_tup (by rfl) (pgs_cons (pg_name (i := 3) sc_read_program.nd rfl (Or.inl rfl)) (pgs_cons (pg_name (i := 4) sc_read_program.nd rfl (Or.inl rfl)) pgs_nil)))
      (pss_one (ps_if (PW.pt (pw_and (pt_cmpR (inK K) (pe_ix (ixT K) (pv 3) pe_int (fun _ _ => rfl)) (pe_tup (pa_cons pe_str (pa_cons pe_str pa_nil))) (by rfl)) (pw_and1 (pt_cmpR op_gt (pe_ix (ixT K) (pv 3) pe_int (fun _ _ => rfl)) (pe_callB (lenK K) (by rfl) TT.b_len (by decide +kernel) (pa_cons (pv 2) pa_nil)) (nomark _)))))
      (pss_one (L2.ps_raise rfl (takes_of rfl rfl rfl rfl) (pmk_oex BL.T BL.iC BL.tI (ok_init BL) (hr.mono (by decide)) BL.b .nil pass0 (by rfl) BL.mg (pa_cons (pe_ix (ixT K) (pv 4) pe_int (fun _ _ => rfl)) (pa_cons pe_int pa_nil)))))
      pss_nil)))
      (pss_one (ps_ret (pe_callTy (tupK K) (by rfl) TT.b_tuple (by decide +kernel) (pa_cons (pv 2) pa_nil)))))))))), ?_⟩
  have s0 := ss_start (N := ["text", "lines", "found", "instruction", "line", "words", "at"]) e r g
  obtain ⟨hl1, hl2⟩ := linesOf_ok ht
  have hz := PyProof.Rows.split_le t "\n"
  refine s_drop (A := fun d => d = .non) (e_call t (a_1 (e_var rfl)) trivial) s0 fun W1 H1 z1 s1 => ?_
  dsimp only
  refine s_asg1 (d := .lst ((linesOf t).map LnD)) (El.e1 (el_call t (a_1 (e_var rfl)) ht)) s1 fun v2 W2 H2 z2 s2 => ?_
  dsimp only
  have hp : progR t = if (linesOf t).length = 0 then .error ((Txt.split t "\n").length + 1, 1)
    else if 6000 < (linesOf t).length then .error (((linesOf t).getD 6000 ([], 0)).2, 1)
    else match insAll (linesOf t) with
      | .error e => .error e
      | .ok l => match goBad l.length l (linesOf t) with
        | some a => .error (a, 2)
        | none => .ok l := rfl
  generalize linesOf t = ls at hl1 hl2 s2 hp
  have ll : (ls.map LnD).length = ls.length := len_map ..
  have s2 : SS K T P W W H W2 H2 [.d (.str t), .d (.lst (ls.map LnD)), .no, .no, .no, .no, .no] _ := s2
  refine s_if1 (t_not1 (t_truL (e_var rfl))) s2 (fun hb H3 e3 s3 => ?_) (fun hb H3 e3 s3 => ?_)
  · have h0 : ls.length = 0 := by
      cases ls with
      | nil => rfl
      | cons a b => cases hb
    refine s_raiseBL (a_2 (e_op (e_lenL (e_split (e_var rfl) e_str nl_nz (by omega))) e_int o_add) e_int) s3 fun dx H' ex hx => kx _ _ dx H' ⟨_, _, by rw [hp, if_pos h0], ?_, rfl⟩ ex hx
    rw [len_map]
    omega
  have h0 : ls.length ≠ 0 := by
    cases ls with
    | nil => cases hb
    | cons a b => simp
  try unfold tNext
  try dsimp only
  refine s_if1 (t_t (e_op (e_lenL (e_var rfl)) (e_c (d := .int 6000) fun W => rfl) o_gt)) s3 (fun hb H4 e4 s4 => ?_) (fun hb H4 e4 s4 => ?_)
  · have h6 : 6000 < ls.length := by
      have := of_decide_eq_true hb
      rw [ll] at this
      omega
    have h7 : atI (ls.map LnD) ((6000 : Nat) : Int) = some (LnD (ls.getD 6000 ([], 0))) := atI_nat (by rw [getDq (by omega), getD_lns h6])
    refine s_raiseBL (a_2 (e_op (e_op (e_var rfl) (e_c (d := .int 6000) fun W => rfl) (o_ixL h7)) e_int (o_ixT rfl)) e_int) s4 fun dx H' ex hx => kx _ _ dx H' ⟨_, _, by rw [hp, if_neg h0, if_pos h6], rfl, rfl⟩ ex hx
  have h6 : ¬ 6000 < ls.length := by
    have := of_decide_eq_false hb
    rw [ll] at this
    omega
  try unfold tNext
  try dsimp only
  rw [if_neg h0, if_neg h6] at hp
  refine s_asg (A := fun d => ∃ is, d = .lst (is.map Ins.d) ∧ insAll ls = .ok is) ((El.e (A := fun l => ∃ is : List Ins, l = is.map Ins.d ∧ insAll ls = .ok is) (el_lc (vs := [5, 6]) (δ' := fun _ _ i => [.d (.str t), .d (.lst (ls.map LnD)), .no, .no, .no, .d (strsD (ls.getD i ([], 0)).1), .d (.int ((ls.getD i ([], 0)).2 : Int))]) (io_list (e_var rfl)) (fun n el i hz hi => ?_) fun n el hz => ⟨fun i l => ∃ is : List Ins, l = is.map Ins.d ∧ insAll (ls.take i) = .ok is, ?_, ?_, ?_, ?_⟩)).imp ?_) s4 fun d v5 W5 H5 hd z5 s5 => ?_
  · obtain ⟨rfl, rfl⟩ := hz
    rw [ll] at hi
    exact Tg.cast (getD_lns hi) tg_pair
  · exact ⟨[], rfl, rfl⟩
  · rintro i l ⟨is, rfl, hi⟩
    refine ⟨ins_not is, ?_⟩
    rw [len_map, insAll_len hi, List.length_take]
    omega
  · rintro l ⟨is, rfl, hi⟩
    refine ⟨is, rfl, ?_⟩
    rw [hz.1, ll, List.take_length] at hi
    exact hi
  · rintro i l hi ⟨is, rfl, his⟩
    rw [hz.1, ll] at hi
    have hx := hl2 _ (getD_mem (d := ([], 0)) hi)
    have hcut : ls = ls.take i ++ ls.getD i ([], 0) :: ls.drop (i + 1) := by
      rw [← drop_get ls ([], 0) hi, List.take_append_drop]
    refine ⟨fun b => b = true, fun σ W R H1 e Q q => q true _ H1 rfl (Vw.same e), fun _ => ?_, fun z => absurd z Bool.false_ne_true⟩
    refine ee_callX (a_2 (e_var rfl) (e_var rfl)) fun ds hds => ⟨((ls.getD i ([], 0)).1, ((ls.getD i ([], 0)).2 : Int)), hds, hx, fun d hd => ?_, fun l p dx H' σ he ex hdx => ?_⟩
    · obtain ⟨q, h1, rfl⟩ := hd
      refine ⟨is ++ [q], by rw [List.map_append]; rfl, ?_⟩
      rw [take_get ls ([], 0) hi]
      exact insAll_app _ _ _ _ his h1
    · obtain ⟨q, h1, rfl, rfl⟩ := he
      refine kx _ _ _ _ ⟨_, _, ?_, rfl, rfl⟩ ex hdx
      have h1 : insP (ls.getD i ([], 0)).1 = .error q := h1
      have h2 := insAll_err _ _ (ls.drop (i + 1)) _ _ his h1
      rw [← hcut] at h2
      rw [hp, h2]
  · rintro d ⟨l, rfl, is, rfl, h⟩
    exact ⟨is, rfl, h⟩
  obtain ⟨is, rfl, his⟩ := hd
  rw [his] at hp
  dsimp only at hp
  have li : (is.map Ins.d).length = is.length := len_map ..
  have lil := insAll_len his
  try dsimp only
  have s5 : SS K T P W W H W5 H5 [.d (.str t), .d (.lst (ls.map LnD)), .d (.lst (is.map Ins.d)), .no, .no, .no, .no] _ := s5
  refine s_for (io_zipLL (a_2 (e_var rfl) (e_var rfl)) (by rw [li, ll, lil])) s5 fun n el W6 H6 hz z6 s6 => ?_
  obtain ⟨hn, rfl⟩ := hz
  rw [li] at hn
  subst hn
  refine ⟨fun i σ' W' H' => ∃ a b, goBad is.length (is.drop i) (ls.drop i) = goBad is.length is ls ∧ Ex K T W6 W' ∧ SS K T P W W H W' H' [.d (.str t), .d (.lst (ls.map LnD)), .d (.lst (is.map Ins.d)), a, b, .no, .no] σ', ?_, ?_, ?_, ?_⟩
  · exact ⟨_, _, rfl, Ex.refl _, s6⟩
  · rintro i σ' W' H' _ ⟨a, b, _, e1, ss⟩
    exact ⟨e1, _, ss⟩
  · rintro i σ' W' H' hi ⟨a, b, hgo, e1, ss⟩
    have hi2 : i < ls.length := by omega
    have hge := getD_ins hi
    have hge2 := getD_lns hi2
    rw [List.drop_eq_getElem_cons hi, drop_get ls ([], 0) hi2] at hgo
    generalize is[i] = one at hge hgo
    generalize ls.getD i ([], 0) = x at hge2 hgo
    refine ⟨_, [.d (.str t), .d (.lst (ls.map LnD)), .d (.lst (is.map Ins.d)), .d one.d, .d (LnD x), .no, .no], [3, 4], ss, Tg.cast (d' := .tup [one.d, LnD x]) (by dsimp only; rw [hge, hge2]) tg_pair, fun σ2 W7 H7 z7 s7 => ?_⟩
    refine s_if1 (k := one.jmp && decide ((is.length : Int) < one.n)) (t_and1 (Et1.is (t_t (e_op (e_ins0 (i := one) (e_var rfl)) (e_tup (a_2 e_str e_str)) (o_inST ["zero", "go"]))) (am_jmp one)) fun hj => ?_) s7 (fun hb H8 e8 s8 => ?_) (fun hb H8 e8 s8 => ?_)
    · cases one with
      | z o => cases hj
      | u o n => exact (t_t (e_op (e_ins1 (o := o) (n := n) (e_var rfl)) (e_lenL (e_var rfl)) o_gt)).is (by rw [li]; rfl)
    · rw [Bool.and_eq_true] at hb
      refine s_raiseBL (a_2 (e_op (e_var rfl) e_int (o_ixT rfl)) e_int) s8 fun dx H' ex hx => kx _ _ dx H' ⟨x.2, 2, ?_, rfl, rfl⟩ ex hx
      rw [goBad_cons, if_pos ⟨hb.1, of_decide_eq_true hb.2⟩] at hgo
      rw [hp, ← hgo]
    · try unfold tNext
      refine ⟨W7, _, _, ?_, e1.trans z7.up, s8⟩
      rw [← hgo]
      rw [goBad_cons, if_neg]
      rintro ⟨a1, a2⟩
      rw [a1, decide_eq_true a2] at hb
      cases hb
  · rintro σ' W' H' ⟨a, b, hgo, e1, ss⟩
    refine s_ret1 (e_cb (a_1 (e_var rfl)) c_tupL) ss e fun v W' H2 z rv => k _ _ _ _ ⟨is, ?_, rfl⟩ z rv
    rw [List.drop_length, goBad_nil] at hgo
    rw [hp, ← hgo]
end K11
/-! K11ZR: rows_at. -/
namespace K11
open PySem PySem.Spec PyProof.Rows
open L2
section
variable {K : PySem.W.Frag} {T : List (Addr × Str)} {P : List Addr} {B : Hp} {δ δ' : List Sl} {te ta tc : TE} {A : D → Prop} {a b c d : D} {W W0 H H1 H2 : Hp} {σ : L2.St} {D0 : Ends} {p : Addr} {ds : List D} {n : Nat}
/-- the heap without one object -/
noncomputable def hide (a : Addr) (H : Hp) : Hp := rs (fun b => b ≠ a) H
theorem hide_at {a : Addr} {H : Hp} : hide a H a = none := rs_out fun h => h rfl
theorem hide_ex {a : Addr} {H : Hp} : Ex K T (hide a H) H := Ex.rs
/-- target = own[j] -/
theorem s_tgtO {g : TG} {j : Nat} {vs : List Nat} (hn : δ[n]? = some (.own p)) (o : Ow K W H H1 p ds) (hj : ds[j]? = some d) (s : SS K T P B W0 H W H1 δ σ) (hg : Tg K T P B g d vs δ δ') (k : ∀ σ', SS K T P B W0 H W H1 δ' σ' → D0.nx σ' H1) :
    tAsg (tOp (rIxL K) (tVar n) (tC (.int (j : Int)))) g D0 σ H1 := by
  obtain ⟨x, hx, rfl⟩ := rps_get s.r.s hn
  obtain ⟨hw, hh, xs, h1, rl, gr⟩ := id o
  obtain ⟨v, hv, rv⟩ := rpl_get rl hj
  exact ⟨_, hx, p, xs, j, v, rfl, rfl, SqL.of h1, atI_nat hv, hg v W H1 _ σ s.r s.y.to rv fun σ' R' _ _ => k σ' ⟨s.y, R'⟩⟩
/-- own.pop(0), as a value -/
theorem pop_core (hn : δ[n]? = some (.own p)) (o : Ow K W H H1 p (d :: ds)) (hr : rowD ds = false) (s : SS K T P B W0 H W H1 δ σ) {Q : VK} (k : ∀ v xs, Rp K W d v → SS K T P B W0 H W (upd H1 p (.lst xs)) δ σ → Ow K W H (upd H1 p (.lst xs)) p ds → Q v (upd H1 p (.lst xs))) :
    tBM K "list" rPopAt (tVar n) (tCons (tC (.int 0)) tNil) σ H1 Q := by
  obtain ⟨x, hx, rfl⟩ := rps_get s.r.s hn
  obtain ⟨hw, hh, xs, h1, rl, gr⟩ := id o
  match xs, rl with
  | v :: xs, ⟨rv, rl⟩ =>
    refine ⟨_, hx, Or.inl ⟨rfl, _, SqL.of h1⟩, p, v :: xs, 0, 0, v, rfl, rfl, h1, by decide, by decide, ?_, rfl, ?_⟩
    · unfold seqIndex?
      simp
    · exact k v xs rv ⟨s.y.mut hw hh h1 gr, s.r⟩ ⟨hw, hh, xs, upd_same, rl, rowish_of rl hr⟩
theorem s_pop (hn : δ[n]? = some (.own p)) (o : Ow K W H H1 p (d :: ds)) (hr : rowD ds = false) (s : SS K T P B W0 H W H1 δ σ) (k : ∀ xs, SS K T P B W0 H W (upd H1 p (.lst xs)) δ σ → Ow K W H (upd H1 p (.lst xs)) p ds → D0.nx σ (upd H1 p (.lst xs))) :
    tDrop (tBM K "list" rPopAt (tVar n) (tCons (tC (.int 0)) tNil)) D0 σ H1 := pop_core hn o hr s fun v xs _ s2 o2 => k xs s2 o2
theorem s_popT {g : TG} {vs : List Nat} (hn : δ[n]? = some (.own p)) (o : Ow K W H H1 p (d :: ds)) (hr : rowD ds = false) (s : SS K T P B W0 H W H1 δ σ) (hg : Tg K T P B g d vs δ δ') (k : ∀ σ' xs, SS K T P B W0 H W (upd H1 p (.lst xs)) δ' σ' → Ow K W H (upd H1 p (.lst xs)) p ds → D0.nx σ' (upd H1 p (.lst xs))) :
    tAsg (tBM K "list" rPopAt (tVar n) (tCons (tC (.int 0)) tNil)) g D0 σ H1 := pop_core hn o hr s fun v xs rv s2 o2 => hg v W _ _ σ s2.r s2.y.to rv fun σ' R' _ _ => k σ' xs ⟨s2.y, R'⟩ o2
/-- a test that looks at a list of one's own -/
theorem t_look {t : TT} {C : Bool → Prop} (hn : δ[n]? = some (.own p)) (o : Ow K W H H1 p ds) (s : SS K T P B W0 H W H1 δ σ) (h : Et K T P B t (δ.set n (.d (.lst ds))) C) {Q : Bool → Hp → Prop}
    (k : ∀ b H2, C b → Ex K T H1 H2 → SS K T P B W0 H W H2 δ σ → Q b H2) : t σ H1 Q := h σ H1 (SS.look s.r s.y.to o hn) H1 (Ex.refl _) _ fun b W' H2 hb z => k b H2 hb z.ac (s.stay z.ac)
theorem s_ifL {t : TT} {tu tw : TS} {C : Bool → Prop} (hn : δ[n]? = some (.own p)) (o : Ow K W H H1 p ds) (s : SS K T P B W0 H W H1 δ σ) (h : Et K T P B t (δ.set n (.d (.lst ds))) C) (h1 : C true → ∀ H2, Ex K T H1 H2 → SS K T P B W0 H W H2 δ σ → tu D0 σ H2) (h2 : C false → ∀ H2, Ex K T H1 H2 → SS K T P B W0 H W H2 δ σ → tw D0 σ H2) : tIfS t tu tw D0 σ H1 :=
  s_if h (SS.look s.r s.y.to o hn) (Ex.refl _) s h1 h2
end
/-! ### what rows_at does -/
def numsR (ws : List Str) (m : Nat) (hi : Int) : Except Nat (List Int) :=
  match (List.range m).find? (fun i => (numP ws (i + 1) hi).isNone) with
  | some i => .error (i + 2)
  | none => .ok ((List.range m).map fun i => (numP ws (i + 1) hi).getD 0)
def rowsR (w : Str) (p : Int) (m most : Nat) : Nat → List Ln → Except (Nat × Nat) (List (List Int) × List Ln)
  | _, [] => .ok ([], [])
  | c, x :: r => if x.1.getD 0 Str.empty = w then
      if c = most then .error (x.2, 1) else
      match numsR x.1 m (p - 1) with
      | .error q => .error (x.2, q)
      | .ok ns => if m + 1 < x.1.length then .error (x.2, m + 2) else
        match rowsR w p m most (c + 1) r with
        | .error e => .error e
        | .ok (rs, r') => .ok (ns :: rs, r')
    else .ok ([], x :: r)
def putR (found : List (List Int)) : Except (Nat × Nat) (List (List Int) × List Ln) → Except (Nat × Nat) (List (List Int) × List Ln)
  | .error e => .error e
  | .ok (rs, r') => .ok (found ++ rs, r')
theorem rowsR_no {w : Str} {p : Int} {m most c : Nat} {ls : List Ln} (h : ls = [] ∨ (ls.getD 0 ([], 0)).1.getD 0 Str.empty ≠ w) : rowsR w p m most c ls = .ok ([], ls) := by
  cases ls with
  | nil => rfl
  | cons x r =>
    have h2 : x.1.getD 0 Str.empty ≠ w := by
      rcases h with h | h
      · cases h
      · exact h
    unfold rowsR
    rw [if_neg h2]
theorem rowsR_yes {w : Str} {p : Int} {m most c : Nat} {x : Ln} {r : List Ln} (h : x.1.getD 0 Str.empty = w) : rowsR w p m most c (x :: r) = if c = most then .error (x.2, 1) else
      match numsR x.1 m (p - 1) with
      | .error q => .error (x.2, q)
      | .ok ns => if m + 1 < x.1.length then .error (x.2, m + 2) else
        match rowsR w p m most (c + 1) r with
        | .error e => .error e
        | .ok (rs, r') => .ok (ns :: rs, r') := by
  conv => lhs; unfold rowsR
  rw [if_pos h]
theorem numsR_ok {ws : List Str} {m : Nat} {hi : Int} {ns : List Int} (hl : ns.length = m) (h : ∀ j, j < m → numP ws (j + 1) hi = some (ns.getD j 0)) : numsR ws m hi = .ok ns := by
  have hf : (List.range m).find? (fun i => (numP ws (i + 1) hi).isNone) = none := by
    rw [List.find?_eq_none]
    intro i hi2
    rw [h i (List.mem_range.mp hi2)]
    exact Bool.false_ne_true
  unfold numsR
  rw [hf]
  dsimp only
  congr 1
  apply List.ext_getElem
  · simp [hl]
  · intro i h1 h2
    simp only [List.getElem_map, List.getElem_range]
    rw [h i (by omega), List.getD_eq_getElem?_getD, List.getElem?_eq_getElem h2]
    rfl
theorem numsR_err {ws : List Str} {m i : Nat} {hi : Int} (h1 : i < m) (h2 : (numP ws (i + 1) hi).isNone = true) (h : ∀ j, j < i → (numP ws (j + 1) hi).isNone = false) : numsR ws m hi = .error (i + 2) := by
  have hf : (List.range m).find? (fun i => (numP ws (i + 1) hi).isNone) = some i := by
    rw [List.find?_range_eq_some]
    exact ⟨h2, List.mem_range.mpr h1, fun j hj => by rw [h j hj]; rfl⟩
  unfold numsR
  rw [hf]
structure LnsOk (ls : List Ln) : Prop where
  len : ls.length ≤ 20002
  ws : ∀ x ∈ ls, 1 ≤ x.1.length ∧ ∀ w ∈ x.1, w.length ≤ 20000
theorem LnsOk.tail {x : Ln} {r : List Ln} (h : LnsOk (x :: r)) : LnsOk r := ⟨by have := h.len; rw [List.length_cons] at this; omega, fun y hy => h.ws y (List.mem_cons_of_mem _ hy)⟩
structure RowsA where
  ls : List Ln
  w : Str
  p : Int
  m : Nat
  most : Nat
structure RowsA.Ok (i : RowsA) : Prop where
  l : LnsOk i.ls
  p1 : 1 ≤ i.p
  m1 : i.m ≤ 100
  most1 : i.most ≤ 100
def RowsA.r (i : RowsA) : Except (Nat × Nat) (List (List Int) × List Ln) := rowsR i.w i.p i.m i.most 0 i.ls
section
variable (K : PySem.W.Frag) (T : List (Addr × Str))
def spRows (P : List Addr) (C : Addr) : Sp := fun vs H Q E => ∃ (i : RowsA) (a : Addr) (W : Hp), Ex K T W H ∧ vs = [.ref a, .str i.w, .int i.p, .int (i.m : Int), .int (i.most : Int)] ∧ Ow K W (hide a H) H a (i.ls.map LnD) ∧ Gd T P W ∧ i.Ok ∧
  (∀ rs ls' v W' H', i.r = .ok (rs, ls') → Vv K T W (hide a H) W' H' → Ow K W' (hide a H) H' a (ls'.map LnD) → Rp K W' (rowsT rs) v → Q v H') ∧
  ∀ (x y : Nat) dx H', i.r = .error (x, y) → Ex K T W H' → H' dx = some (.xd [("place", .int (y : Int)), ("line", .int (x : Int))]) → E (.ref C) (some dx) H'
end
variable {PP : Program} {w : World} {K : PySem.W.Frag} {T : List (Addr × Str)} {P : List Addr} {mg : Str → Option Value} {base : Heap} {C fI aP aS aW : Addr} {fdI : FuncData}
theorem sc_rows_at : FnScope ["lines", "word", "prime", "many", "most", "found", "words", "at", "place"] ["lines", "word", "prime", "many", "most"] (defScope (topS 36)) := ⟨rfl, rfl, rfl, by decide +kernel, rfl, by decide +kernel, by decide +kernel⟩
theorem ok_rowsat {f f1 f2 : Addr} {fd fd1 fd2 : FuncData} (TT : Tx K mg) (BL : BLx K mg C fI fdI) (F : Dfn K mg "rows_at" 36 ["lines", "word", "prime", "many", "most"] f fd)
    (D_number_at : Dfn K mg "number_at" 34 ["words", "place", "high", "at"] f1 fd1) (G_number_at : FnOk PP w K mg base (L2.CX PP w) 6 f1 fd1 ["words", "place", "high", "at"] (sp_numat K T P C))
    (D_need_end : Dfn K mg "need_end" 35 ["words", "many", "at"] f2 fd2) (G_need_end : FnOk PP w K mg base (L2.CX PP w) 3 f2 fd2 ["words", "many", "at"] (sp_nend K T P C)) :
    FnOk PP w K mg base (L2.CX PP w) 8 f fd ["lines", "word", "prime", "many", "most"] (spRows K T P C) := by
  refine F.okX sc_rows_at (by rintro vs H Q E ⟨i, a, W, _, rfl, _⟩; rfl) fun cdv A outer s H vs Q XE hr h => ?_
  obtain ⟨⟨ls, wd, p, m, most⟩, a, W, e, rfl, ow0, g, ⟨lok, hp1, hm1, hmost⟩, k, kx⟩ := h
  dsimp only [RowsA.r] at lok hp1 hm1 hmost k kx ow0
  refine ⟨_, (pss_cons (ps_set (i := 5) sc_rows_at.nd rfl (Or.inl rfl) (pe_lst pa_nil))
      (pss_cons (ps_while PassesOwn.leaving (PW.pt (pw_and (pt_truK K (pv 0)) (pw_and1 (pt_cmpR op_eq (pe_ix (ixL K) (pe_ix (ixT K) (pe_ix (ixL K) (pv 0) pe_int (fun _ _ => rfl)) pe_int (fun _ _ => rfl)) pe_int (fun _ _ => rfl)) (pv 1) (nomark _)))))
      (pss_cons (ps_asg (pe_ix (ixL K) (pv 0) pe_int (fun _ _ => rfl)) (pg_tup (by rfl) (pgs_cons (pg_name (i := 6) sc_rows_at.nd rfl (Or.inr rfl)) (pgs_cons (pg_name (i := 7) sc_rows_at.nd rfl (Or.inr rfl)) pgs_nil))))
      (pss_cons (ps_if (pt_cmpR op_eq (pe_callB (lenK K) (by rfl) TT.b_len (by decide +kernel) (pa_cons (pv 5) pa_nil)) (pv 4) (nomark _))
      (pss_one (L2.ps_raise rfl (takes_of rfl rfl rfl rfl) (pmk_oex BL.T BL.iC BL.tI (ok_init BL) (hr.mono (by decide)) BL.b .nil pass0 (by rfl) BL.mg (pa_cons (pv 7) (pa_cons pe_int pa_nil)))))
      pss_nil)
      (pss_cons (ps_expr (pe_bm PySem.F.plainAttrs_list PySem.F.slot_list_append PySem.F.type_list_append mt_append (pv 5) (pa_cons (pe_callTy (tupK K) (by rfl) TT.b_tuple (by decide +kernel) (pa_cons (pe_lcX (E := XE) (g := gName 8) (own := [("place", 8)]) rfl rfl (fun u s' x => x.leave rfl rfl rfl) (by rfl) sc_rows_at.nd (pi_range1 (by rfl) TT.b_range (pa_cons (pv 3) pa_nil)) (blkOk_by (own := [("place", 8)]) (by rfl)) (fun _ _ _ _ _ => (pg_name (i := 8) sc_rows_at.nd rfl (Or.inl rfl))) (fun _ _ _ _ _ => pts_nil) (fun _ _ _ _ _ => (pe_callS G_number_at (hr.mono (by decide)) (by rfl) D_number_at.mg D_number_at.kp D_number_at.b (fun σ => passBlk σ) (pa_cons (pv 6) (pa_cons (pe_op op_add (pv 8) pe_int) (pa_cons (pe_op op_sub (pv 2) pe_int) (pa_cons (pv 7) pa_nil))))))) pa_nil)) pa_nil)))
      (pss_cons (ps_expr (pe_callS G_need_end (hr.mono (by decide)) (by rfl) D_need_end.mg D_need_end.kp D_need_end.b (fun σ => passAt (takes_of rfl rfl rfl rfl) σ) (pa_cons (pv 6) (pa_cons (pe_op op_add (pv 3) pe_int) (pa_cons (pv 7) pa_nil)))))
      (pss_one (ps_expr (pe_bm PySem.F.plainAttrs_list PySem.F.slot_list_pop PySem.F.type_list_pop mt_popAt (pv 0) (pa_cons pe_int pa_nil)))))))))
      (pss_one (ps_ret (pe_callTy (tupK K) (by rfl) TT.b_tuple (by decide +kernel) (pa_cons (pv 5) pa_nil)))))), ?_⟩
  have s0 : SS K T P W W (hide a H) W H [.own a, .d (.str wd), .d (.int p), .d (.int (m : Int)), .d (.int (most : Int)), .no, .no, .no, .no] (L2.start ["lines", "word", "prime", "many", "most", "found", "words", "at", "place"] [.ref a, .str wd, .int p, .int (m : Int), .int (most : Int)]) :=
    ⟨⟨Ex.refl _, e, hide_ex, fun b o h _ h0 => by rw [h] at h0; cases h0⟩, ⟨⟨rfl, ⟨_, rfl, rfl⟩, ⟨_, rfl, rfl⟩, ⟨_, rfl, rfl⟩, ⟨_, rfl, rfl⟩, trivial, trivial, trivial, trivial, trivial⟩, g, Ex.refl _⟩⟩
  refine s_asgL (A := fun l => l = []) (el_lst a_nil) s0 fun ds q W1 H1 hA v1 s1 o1 hq => ?_
  subst hA
  have oa := ow0.step v1
  have naq : a ≠ q := fun z => by
    obtain ⟨_, _, xs, h1, _⟩ := ow0
    rw [z, hq] at h1
    cases h1
  try dsimp only
  refine ⟨fun mm σ' H' => ∃ (found : List (List Int)) (rest : List Ln) (W' : Hp) (x y : Sl), mm = rest.length ∧ LnsOk rest ∧ found.length ≤ most ∧
    (rowsR wd p m most 0 ls = putR found (rowsR wd p m most found.length rest)) ∧
    SS K T P W W (hide a H) W' H' [.own a, .d (.str wd), .d (.int p), .d (.int (m : Int)), .d (.int (most : Int)), .own q, x, y, .no] σ' ∧ Ow K W' (hide a H) H' a (rest.map LnD) ∧ Ow K W' (hide a H) H' q (found.map rowT), ⟨_, [], ls, W1, .no, .no, rfl, lok, Nat.zero_le _, ?_, s1, oa, o1⟩, ?_⟩
  · show _ = putR [] (rowsR wd p m most 0 ls)
    cases rowsR wd p m most 0 ls with
    | error e => rfl
    | ok z => rfl
  rintro mm σ' H' ⟨found, rest, W', x', y', rfl, rok, hfm, rel, ss, oa, oq⟩
  have lf : (found.map rowT).length = found.length := len_map ..
  have lr : (rest.map LnD).length = rest.length := len_map ..
  -- the loop's end
  have fin : ∀ H2, (rest = [] ∨ (rest.getD 0 ([], 0)).1.getD 0 Str.empty ≠ wd) → Ex K T H' H2 → SS K T P W W (hide a H) W' H2 [.own a, .d (.str wd), .d (.int p), .d (.int (m : Int)), .d (.int (most : Int)), .own q, x', y', .no] σ' →
      tRet (tCB (fun xs H Q => ∃ p ys, xs = [.ref p] ∧ ((SqL K H p ys ∧ ∀ l, H l = none → Q (.ref l) (upd H l (.tup ys))) ∨ (SqT K H p ys ∧ Q (.ref p) H))) (tCons (tVar 5) tNil)) { nx := fun _ H' => Q .non H', rt := Q } σ' H2 := by
    intro H2 hex e2 s2
    obtain ⟨W3, s3, e3, ok3⟩ := s2.release (n := 5) (oq.stay e2) rfl
    have oa3 := ok3 a _ (oa.stay e2) naq
    refine (e_cb (a_1 (e_var rfl)) (c_tupL (l := found.map rowT))) σ' W3 s3.r H2 s3.y.to _ fun d v W4 H4 hd z4 rv => ?_
    subst hd
    have s4 := s3.step z4.vv
    refine k found rest v W4 H4 ?_ s4.y (oa3.step z4.vv) rv
    rw [rel, rowsR_no hex]
    show Except.ok (found ++ [], rest) = _
    rw [List.append_nil]
  cases rest with
  | nil =>
    refine t_look (n := 0) (C := fun b => b = false) rfl oa ss (t_and1 (k := false) (l := false) (Et1.is (t_truL (l := []) (e_var rfl)) rfl) fun z => absurd z (by decide)) fun b H2 hb e2 s2 => ?_
    subst hb
    exact fin H2 (.inl rfl) e2 s2
  | cons x r =>
    have hx := rok.ws x (List.mem_cons_self ..)
    have h00 : atI (x.1.map D.str) ((0 : Nat) : Int) = some (.str (x.1.getD 0 Str.empty)) := atI_nat (by rw [List.getElem?_map, List.getElem?_eq_getElem (by omega), List.getD_eq_getElem?_getD, List.getElem?_eq_getElem (by omega)]; rfl)
    have h0 : atI ((x :: r).map LnD) ((0 : Nat) : Int) = some (LnD x) := atI_nat rfl
    refine t_look (n := 0) (C := fun b => b = decide (x.1.getD 0 Str.empty = wd)) rfl oa ss ((t_and1 (k := true) (l := decide (x.1.getD 0 Str.empty = wd)) (Et1.is (t_truL (l := (x :: r).map LnD) (e_var rfl)) rfl) fun _ => t_t (e_op (e_op (e_op (e_op (e_var rfl) e_int (o_ixL h0)) e_int (o_ixT rfl)) e_int (o_ixL h00)) (e_var rfl) o_eqS))) fun b H2 hb e2 s2 => ?_
    subst hb
    by_cases hw : x.1.getD 0 Str.empty = wd
    · rw [decide_eq_true hw, if_pos rfl]
      rw [rowsR_yes hw] at rel
      refine ⟨fun σ' H' => ∃ m', m' < (x :: r).length ∧ ∃ (found : List (List Int)) (rest : List Ln) (W' : Hp) (x y : Sl), m' = rest.length ∧ LnsOk rest ∧ found.length ≤ most ∧
        (rowsR wd p m most 0 ls = putR found (rowsR wd p m most found.length rest)) ∧
        SS K T P W W (hide a H) W' H' [.own a, .d (.str wd), .d (.int p), .d (.int (m : Int)), .d (.int (most : Int)), .own q, x, y, .no] σ' ∧ Ow K W' (hide a H) H' a (rest.map LnD) ∧ Ow K W' (hide a H) H' q (found.map rowT), fun σ' H' h => h, ?_⟩
      have oa2 := oa.stay e2
      have oq2 := oq.stay e2
      refine s_tgtO (n := 0) (j := 0) (d := LnD x) (vs := [6, 7]) rfl oa2 rfl s2 tg_pair fun σ3 s3 => ?_
      try dsimp only
      refine s_ifL (n := 5) rfl oq2 s3 (C := fun b => b = decide ((found.length : Int) = (most : Int))) ((t_t (e_op (e_lenL (l := found.map rowT) (e_var rfl)) (e_var rfl) o_eqI)).is (by rw [lf])) (fun hb H4 e4 s4 => ?_) (fun hb H4 e4 s4 => ?_)
      · have hb2 := of_decide_eq_true hb.symm
        refine s_raiseBL (a_2 (e_var rfl) e_int) s4 fun dx H' ex hx' => kx x.2 1 dx H' ?_ ex hx'
        rw [rel, if_pos (by omega)]
        rfl
      have hne : found.length ≠ most := fun z => by
        have hb2 := of_decide_eq_false hb.symm
        omega
      rw [if_neg hne] at rel
      have oa4 := oa2.stay e4
      have oq4 := oq2.stay e4
      try unfold tNext
      try dsimp only
      have tup : ∀ l : List D, Rt K T (fun xs H Q => ∃ p ys, xs = [.ref p] ∧ ((SqL K H p ys ∧ ∀ l, H l = none → Q (.ref l) (upd H l (.tup ys))) ∨ (SqT K H p ys ∧ Q (.ref p) H))) [.lst l] (fun d => d = .tup l) := fun l => c_tupL
      refine s_app (n := 5) rfl oq4 (A := fun d => ∃ ns, d = rowT ns ∧ numsR x.1 m (p - 1) = .ok ns) (ee_cb (A := fun ds => ∃ ns : List Int, ds = [.lst (ns.map .int)] ∧ numsR x.1 m (p - 1) = .ok ns) ((aaN (A := fun d => ∃ ns : List Int, d = .lst (ns.map .int) ∧ numsR x.1 m (p - 1) = .ok ns) ((El.e (A := fun l => ∃ ns : List Int, l = ns.map .int ∧ numsR x.1 m (p - 1) = .ok ns)
        (el_lc (vs := [8]) (δ' := fun _ _ i => [.own a, .d (.str wd), .d (.int p), .d (.int (m : Int)), .d (.int (most : Int)), .own q, .d (strsD x.1), .d (.int (x.2 : Int)), .d (.int (i : Int))]) (io_rngN (m := m) (a_1 (e_var rfl)) (by omega)) (fun n el i hz hi => ?_) fun n el hz => ⟨fun i l => ∃ ns : List Int, l = ns.map .int ∧ ns.length = i ∧ i ≤ m ∧ ∀ j, j < i → numP x.1 (j + 1) (p - 1) = some (ns.getD j 0), ?_, ?_, ?_, ?_⟩)).imp ?_) a_nil).imp ?_) fun ds hd => ?_) s4 (by rw [lf]; omega) (fun d hd => ?_) fun d W5 H5 hd z5 xs s5 o5 => ?_
      · obtain ⟨rfl, rfl⟩ := hz
        exact tg_name
      · exact ⟨[], rfl, rfl, Nat.zero_le _, fun j hj => absurd hj (Nat.not_lt_zero _)⟩
      · rintro i l ⟨ns, rfl, hl, him, _⟩
        exact ⟨rowD_ints fun d hd => by
          obtain ⟨_, _, rfl⟩ := List.mem_map.mp hd
          rfl, by rw [len_map]; omega⟩
      · rintro l ⟨ns, rfl, hl, him, hall⟩
        rw [hz.1] at hl hall
        exact ⟨ns, rfl, numsR_ok hl hall⟩
      · rintro i l hi ⟨ns, rfl, hl, him, hall⟩
        obtain ⟨rfl, rfl⟩ := hz
        refine ⟨fun b => b = true, fun σ W R H1 e Q q => q true _ H1 rfl (Vw.same e), fun _ => ?_, fun z => absurd z Bool.false_ne_true⟩
        refine ee_callX (A := fun ds => ds = [strsD x.1, .int ((i + 1 : Nat) : Int), .int (p - 1), .int (x.2 : Int)]) (a_cons (e_var rfl) (a_3 (E1.is (e_op (e_var rfl) e_int o_add) rfl) (e_op (e_var rfl) e_int o_sub) (e_var rfl))) fun ds hds => ⟨(x.1, i + 1, p - 1, (x.2 : Int)), hds, hx.2, fun d hd => ?_, fun l pp dx H' σ he ex hdx => ?_⟩
        · obtain ⟨rfl, h2⟩ := hd
          dsimp only at h2 ⊢
          rw [numAt_opt] at h2 ⊢
          rw [isN_opt] at h2
          cases hq2 : numP x.1 (i + 1) (p - 1) with
          | none =>
            rw [hq2] at h2
            cases h2
          | some v =>
            refine ⟨ns ++ [v], by rw [List.map_append]; rfl, by rw [List.length_append, hl]; rfl, hi, fun j hj => ?_⟩
            by_cases hji : j = i
            · subst hji
              rw [hq2, List.getD_eq_getElem?_getD, List.getElem?_append_right (by omega), hl, Nat.sub_self]
              rfl
            · rw [hall j (by omega), List.getD_eq_getElem?_getD, List.getD_eq_getElem?_getD, List.getElem?_append_left (by omega)]
        · obtain ⟨h1, rfl, rfl⟩ := he
          dsimp only at h1
          rw [numAt_opt, isN_opt] at h1
          refine kx x.2 (i + 2) dx H' ?_ ex hdx
          rw [rel, numsR_err hi h1 fun j hj => by rw [hall j hj]; rfl]
          rfl
      · rintro d ⟨l, rfl, ns, rfl, h⟩
        exact ⟨ns, rfl, h⟩
      · rintro ds ⟨_, _, rfl, ⟨ns, rfl, h⟩, rfl⟩
        exact ⟨ns, rfl, h⟩
      · obtain ⟨ns, rfl, h⟩ := hd
        exact fun W vs W1 H1 e1 e2 rv Q q => tup _ W vs W1 H1 e1 e2 rv Q fun d v W' H2 hd => q d v W' H2 ⟨ns, hd, h⟩
      · obtain ⟨ns, rfl, h⟩ := hd
        have z : found.map rowT ++ [rowT ns] = (found ++ [ns]).map rowT := by rw [List.map_append]; rfl
        rw [z]
        exact rowD_rows _
      obtain ⟨ns, rfl, hns⟩ := hd
      rw [hns] at rel
      dsimp only at rel
      have oa5 := (oa4.step z5.vv).other (o := .lst xs) naq
      try dsimp only
      refine s_dropA (e_callX (x.1, m + 1, (x.2 : Int)) (a_3 (e_var rfl) (E1.is (e_op (e_var rfl) e_int o_add) rfl) (e_var rfl)) trivial fun l pp dx H' σ he ex hd => ?_) s5 fun d hd W6 H6 z6 s6 => ?_
      · obtain ⟨rfl, h2, rfl⟩ := he
        refine kx x.2 (m + 2) dx H' ?_ ex hd
        rw [rel, if_pos h2]
        rfl
      obtain ⟨rfl, hle⟩ := hd
      have hle : x.1.length ≤ m + 1 := hle
      rw [if_neg (by omega)] at rel
      try dsimp only
      refine s_pop (n := 0) (d := LnD x) (ds := r.map LnD) rfl (oa5.step z6.vv) (rowD_lns r) s6 fun xs2 s7 o7 => ?_
      refine ⟨_, Nat.lt_succ_self _, found ++ [ns], r, W6, _, _, rfl, rok.tail, by rw [List.length_append]; show found.length + 1 ≤ most; omega, ?_, s7, o7, ?_⟩
      · rw [rel, List.length_append]
        show putR found (match rowsR wd p m most (found.length + 1) r with | .error e => .error e | .ok (rs, r') => .ok (ns :: rs, r')) = putR (found ++ [ns]) (rowsR wd p m most (found.length + 1) r)
        cases rowsR wd p m most (found.length + 1) r with
        | error e => rfl
        | ok z =>
          show Except.ok (found ++ ns :: z.1, z.2) = Except.ok (found ++ [ns] ++ z.1, z.2)
          rw [List.append_assoc]
          rfl
      · rw [List.map_append]
        exact (o5.step z6.vv).other (Ne.symm naq)
    · rw [decide_eq_false hw, if_neg Bool.false_ne_true]
      exact fin H2 (.inr hw) e2 s2
end K11
/-! K11ZS: read_machine. -/
namespace K11
open PySem PySem.Spec PyProof.Rows
open L2
section
variable {K : PySem.W.Frag} {T : List (Addr × Str)} {P : List Addr} {B : Hp} {δ δ' : List Sl} {te ta tc : TE} {A : D → Prop} {a b c d : D} {W W0 H H1 H2 U : Hp} {σ : L2.St} {D0 : Ends} {p : Addr} {ds : List D} {n m : Nat} {C : Addr}
/-- own, x = .., e -/
theorem s_parL {A : List D → Prop} (h : El K T P B te δ A) (h2 : E1 K T P B tc δ c) (s : SS K T P B W0 H W H1 δ σ) (k : ∀ ds p v W' H2, A ds → SS K T P B W0 H W' H2 ((δ.set n (.own p)).set m (.d c)) ((σ.set n (some (.ref p))).set m (some v)) → Ow K W' H H2 p ds → D0.nx ((σ.set n (some (.ref p))).set m (some v)) H2) :
    tPar n m (tCons te (tCons tc tNil)) D0 σ H1 := h σ W s.r H1 s.y.to _ fun ds xs p W' H2 hd z n1 n2 hl g rl => h2 σ W' (s.r.mono z.up) H2 z.to _ fun d v W3 H3 hd3 z3 rv => by
  subst hd3
  have o : Ow K W' H H2 p ds := ⟨n1, s.y.ac.has p n2, xs, hl, rl, g⟩
  exact ⟨.ref p, v, rfl, k ds p v W3 H3 hd ⟨(s.y.trans z).trans z3.vv, (((s.r.mono z.up).mono z3.up).setO).set rv⟩ (o.step z3.vv)⟩
/-- x = an int that is read off a list of one's own -/
theorem s_asgLk {k : Nat} {i : Int} (hn : δ[n]? = some (.own p)) (o : Ow K W H H1 p ds) (s : SS K T P B W0 H W H1 δ σ) (h : E1 K T P B te (δ.set n (.d (.lst ds))) (.int i)) (kk : ∀ H2, Ex K T H1 H2 → SS K T P B W0 H W H2 (δ.set k (.d (.int i))) (σ.set k (some (.int i))) → D0.nx (σ.set k (some (.int i))) H2) : tAsg te (gName k) D0 σ H1 :=
  h σ H1 (SS.look s.r s.y.to o hn) H1 (Ex.refl _) _ fun d v W' H2 hd z rv => by
    subst hd
    cases (show v = .int i from rv)
    exact kk H2 z.ac ((s.stay z.ac).set rp_i)
/-- raise BadLine(..), seen from another view -/
theorem s_raiseV {Z : XK} {l q : Int} {ta' : TA} (h : Ea1 K T P B ta' δ' [.int l, .int q]) (R : Rs K T P B U δ' σ) (e : Ex K T U H1) (e0 : Ex K T W0 U) (k : ∀ dx H', Ex K T W0 H' → H' dx = some (.xd [("place", .int q), ("line", .int l)]) → Z (.ref C) (some dx) H') :
    tMkO C (sp_init C) [] ta' σ H1 Z := s_raiseBL h (⟨Vv.start e, R⟩ : SS K T P B U H1 U H1 δ' σ) fun dx H' ex hx => k dx H' (e0.trans ex) hx
theorem t_truT {l : List D} (h : E1 K T P B te δ (.tup l)) : Et1 K T P B (fun σ H Q => te σ H fun x H' => ∃ k, TruV K x H' k ∧ Q k H') δ (!l.isEmpty) := fun σ W R H1 e Q q => h σ W R H1 e _ fun d v W2 H2 hd z rv => by
  subst hd
  obtain ⟨p, xs, rfl, hs, hl⟩ := rv
  have hx : xs.isEmpty = l.isEmpty := by
    cases l <;> cases xs <;> first | rfl | exact False.elim hl
  refine ⟨!l.isEmpty, ?_, q _ W2 H2 rfl z⟩
  rw [← hx]
  exact .inr (.inl ⟨xs, ex_st z.to hs, rfl⟩)
/-- a value is appended to a list of one's own -/
theorem s_appV {v : V} (o : Ow K W H H1 p ds) (s : SS K T P B W0 H W H1 δ σ) (rv : Rp K W d v) (hz : ds.length < 100000) (hr : rowD (ds ++ [d]) = false) {Q : VK} (k : ∀ xs, SS K T P B W0 H W (upd H1 p (.lst xs)) δ σ → Ow K W H (upd H1 p (.lst xs)) p (ds ++ [d]) → Q .non (upd H1 p (.lst xs))) :
    rAppend (.ref p) [v] H1 Q := by
  obtain ⟨hw, hh, xs, h1, rl, g⟩ := id o
  have ra := rpl_app (m := [d]) (ys := [v]) rl ⟨rv, True.intro⟩
  exact ⟨p, xs, v, rfl, rfl, h1, by rw [rpl_len rl]; exact Nat.lt_of_lt_of_le hz (by decide), k _ ⟨s.y.mut hw hh h1 g, s.r⟩ ⟨hw, hh, _, upd_same, ra, rowish_of ra hr⟩⟩
/-- rows_at is called with a list of one's own -/
theorem c_rows {X : L2.St → XK} {tr : TA} {i : RowsA} (hn : δ[n]? = some (.own p)) (o : Ow K W H H1 p (i.ls.map LnD)) (s : SS K T P B W0 H W H1 δ σ) (ha : Ea1 K T P B tr δ [.str i.w, .int i.p, .int (i.m : Int), .int (i.most : Int)]) (hok : i.Ok) {Q : VK}
    (k : ∀ rs ls' v W' H', i.r = .ok (rs, ls') → Ex K T W W' → SS K T P B W0 H W' H' δ σ → Ow K W' H H' p (ls'.map LnD) → (∀ q es, q ≠ p → Ow K W H H1 q es → Ow K W' H H' q es) → Rp K W' (rowsT rs) v → Q v H')
    (kx : ∀ (x y : Nat) dx H', i.r = .error (x, y) → Ex K T W0 H' → H' dx = some (.xd [("place", .int (y : Int)), ("line", .int (x : Int))]) → X σ (.ref C) (some dx) H') :
    tCallS (spRows K T P C) X (tCons (tVar n) tr) σ H1 Q := by
  obtain ⟨x, hx, rfl⟩ := rps_get s.r.s hn
  refine ⟨_, hx, ha σ W s.r H1 s.y.to _ fun es vs W2 H2 hd z rv => ?_⟩
  subst hd
  have o2 := o.step z.vv
  have s2 := s.step z.vv
  match vs, rv with
  | [v1, v2, v3, v4], ⟨r1, r2, r3, r4, _⟩ =>
    cases (show v1 = .str i.w from r1)
    cases (show v2 = .int i.p from r2)
    cases (show v3 = .int (i.m : Int) from r3)
    cases (show v4 = .int (i.most : Int) from r4)
    obtain ⟨hw, hh, xs, h1, rl, g⟩ := id o2
    have inS : ∀ {A : Hp}, A p = none → Ex K T A H2 → Ex K T A (hide p H2) := fun {A} hA e => e.inRs (fun b hb z => hb (by rw [z]; exact hA)) fun b q hq z => by
      rw [z, h1] at hq
      cases hq
    have y2 : Vv K T W0 H W2 (hide p H2) := ⟨s2.y.up, inS hw s2.y.to, inS hh s2.y.ac, s2.y.fr⟩
    refine ⟨i, p, W2, z.to, rfl, ⟨hw, hide_at, xs, h1, rl, g⟩, s2.r.g, hok, fun rs ls' v W' H' hr vv ow' rv => ?_, fun x y dx H' hr ex hdx => kx x y dx H' hr (s2.y.up.trans ex) hdx⟩
    obtain ⟨hw', _, xs', h1', rl', g'⟩ := ow'
    refine k rs ls' v W' H' hr (z.up.trans vv.up) ⟨y2.trans vv, s2.r.mono vv.up⟩ ⟨hw', hh, xs', h1', rl', g'⟩ (fun q es hq oq => ?_) rv
    obtain ⟨qw, qh, qs, q1, qr, qg⟩ := oq.step z.vv
    exact Ow.step (H1 := hide p H2) ⟨qw, qh, qs, (rs_in (S := fun b => b ≠ p) (b := q) hq).trans q1, qr, qg⟩ vv
end
end K11
/-! K11ZT: read_machine. -/
namespace K11
open PySem PySem.Spec PyProof.Rows
open L2
/-! ### what a text tells -/
def hdL (en : Nat) : List Ln → Nat
  | [] => en
  | x :: _ => x.2
def loopR (en : Nat) (p : Int) (m : Nat) : List (Str × Nat) → List Ln → Except (Nat × Nat) (List (List (List Int)) × List Ln)
  | [], r => .ok ([], r)
  | x :: ws, r => match rowsR x.1 p m x.2 0 r with
    | .error e => .error e
    | .ok (rs, r') => if rs.isEmpty = true then .error (hdL en r', 1) else
      if x.1 = "stir" ∧ undone p rs = false then .error (hdL en r, 1) else
      match loopR en p m ws r' with
      | .error e => .error e
      | .ok (t, r'') => .ok (rs :: t, r'')
def prB (p : Int) : Bool := inV (.int p) [.int 2, .int 3, .int 5, .int 7]
def manyR : List Ln → Nat
  | [] => 0
  | x :: _ => min 4 (x.1.length - 1)
def wlR (m : Nat) : List (Str × Nat) := [("stir", m), ("write", 4), ("see", 4)]
def finR (p : Int) (m : Nat) : Except (Nat × Nat) (List (List (List Int)) × List Ln) → Except (Nat × Nat) Mac
  | .error e => .error e
  | .ok (tb, r3) => match r3 with
    | y :: _ => .error (y.2, 1)
    | [] => .ok ⟨p, m, tb.getD 0 [], tb.getD 1 [], tb.getD 2 []⟩
def machL (en : Nat) : List Ln → Except (Nat × Nat) Mac
  | [] => .error (en, 1)
  | x :: r => if x.1.getD 0 Str.empty = "prime" then
      match numP x.1 1 7 with
      | none => .error (x.2, 2)
      | some p => if prB p = true then (if 2 < x.1.length then .error (x.2, 3) else finR p (max 1 (manyR r)) (loopR en p (max 1 (manyR r)) (wlR (max 1 (manyR r))) r)) else .error (x.2, 2)
    else .error (x.2, 1)
theorem machL_cons {en : Nat} {x : Ln} {r : List Ln} : machL en (x :: r) = if x.1.getD 0 Str.empty = "prime" then
      match numP x.1 1 7 with
      | none => .error (x.2, 2)
      | some p => if prB p = true then (if 2 < x.1.length then .error (x.2, 3) else finR p (max 1 (manyR r)) (loopR en p (max 1 (manyR r)) (wlR (max 1 (manyR r))) r)) else .error (x.2, 2)
    else .error (x.2, 1) := rfl
theorem loopR_cons {en : Nat} {p : Int} {m : Nat} {x : Str × Nat} {ws : List (Str × Nat)} {r : List Ln} : loopR en p m (x :: ws) r = match rowsR x.1 p m x.2 0 r with
    | .error e => .error e
    | .ok (rs, r') => if rs.isEmpty = true then .error (hdL en r', 1) else
      if x.1 = "stir" ∧ undone p rs = false then .error (hdL en r, 1) else
      match loopR en p m ws r' with
      | .error e => .error e
      | .ok (t, r'') => .ok (rs :: t, r'') := rfl
def machR (t : Str) : Except (Nat × Nat) Mac := machL ((Txt.split t "\n").length + 1) (linesOf t)
def putL (tb : List (List (List Int))) : Except (Nat × Nat) (List (List (List Int)) × List Ln) → Except (Nat × Nat) (List (List (List Int)) × List Ln)
  | .error e => .error e
  | .ok (t, r') => .ok (tb ++ t, r')
theorem prB_pr {p : Int} (h : prB p = true) : isPr p := by
  unfold prB inV at h
  simp only [List.any_cons, List.any_nil, Bool.or_false, Bool.or_eq_true] at h
  have c : ∀ q : Int, eqV (.int q) (.int p) = true → q = p := fun q h => by
    have h2 : (q == p) = true := h
    simpa using h2
  unfold isPr
  rcases h with h | h | h | h <;> have := c _ h <;> omega
theorem whN_rng {x : Str} {hi v : Int} (h : whN x hi = some v) : 0 ≤ v ∧ v ≤ hi := by
  unfold whN at h
  split at h
  · rename_i q
    cases h
    exact ⟨wholeV_0 x, q.2⟩
  · cases h
theorem numP_rng {ws : List Str} {pl : Nat} {hi v : Int} (h : numP ws pl hi = some v) : 0 ≤ v ∧ v ≤ hi := by
  unfold numP at h
  split at h
  · exact whN_rng h
  · cases h
theorem numsR_row {ws : List Str} {m : Nat} {p : Int} {ns : List Int} (h : numsR ws m (p - 1) = .ok ns) : RowOk p m ns := by
  unfold numsR at h
  split at h
  · cases h
  · rename_i hf
    cases h
    refine ⟨by rw [List.length_map, List.length_range], fun x hx => ?_⟩
    obtain ⟨i, hi, rfl⟩ := List.mem_map.mp hx
    rw [List.find?_eq_none] at hf
    have k := hf i hi
    cases q : numP ws (i + 1) (p - 1) with
    | none =>
      rw [q] at k
      exact absurd rfl k
    | some v =>
      have := numP_rng q
      show 0 ≤ v ∧ v < p
      omega
theorem rowsR_ok {w : Str} {p : Int} {m most : Nat} : ∀ {ls : List Ln} {c : Nat} {rs : List (List Int)} {r' : List Ln}, LnsOk ls → c ≤ most → rowsR w p m most c ls = .ok (rs, r') → LnsOk r' ∧ c + rs.length ≤ most ∧ ∀ r ∈ rs, RowOk p m r
  | [], c, rs, r', ok, hc, h => by
    cases h
    exact ⟨ok, hc, fun r hr => by cases hr⟩
  | x :: r, c, rs, r', ok, hc, h => by
    by_cases hw : x.1.getD 0 Str.empty = w
    · rw [rowsR_yes hw] at h
      split at h
      · cases h
      rename_i hcm
      split at h
      · cases h
      rename_i ns hns
      split at h
      · cases h
      split at h
      · cases h
      rename_i rs2 r2 h2
      cases h
      obtain ⟨a1, a2, a3⟩ := rowsR_ok ok.tail (by omega) h2
      refine ⟨a1, by rw [List.length_cons]; omega, fun q hq => ?_⟩
      rcases List.mem_cons.mp hq with rfl | hq
      · exact numsR_row hns
      · exact a3 q hq
    · rw [rowsR_no (ls := x :: r) (.inr hw)] at h
      cases h
      exact ⟨ok, hc, fun r hr => by cases hr⟩
abbrev wdD (x : Str × Nat) : D := .tup [.str x.1, .int (x.2 : Int)]
section
variable {K : PySem.W.Frag} {T : List (Addr × Str)} {P : List Addr} {B : Hp} {δ : List Sl} {te tc : TE}
theorem e_hd0 {x : Ln} {r : List Ln} (h : E1 K T P B te δ (.lst ((x :: r).map LnD))) : E1 K T P B (tOp (rIxT K) (tOp (rIxL K) te (tC (.int 0))) (tC (.int 1))) δ (.int (x.2 : Int)) :=
  e_op (e_op h e_int (o_ixL (show atI ((x :: r).map LnD) ((0 : Nat) : Int) = some (LnD x) from atI_nat rfl))) e_int (o_ixT rfl)
theorem e_hd {ls : List Ln} {en : Nat} (h : E1 K T P B te δ (.lst (ls.map LnD))) (h2 : E1 K T P B tc δ (.int (en : Int))) : E1 K T P B (tIf (fun σ H Q => te σ H fun x H' => ∃ k, TruV K x H' k ∧ Q k H') (tOp (rIxT K) (tOp (rIxL K) te (tC (.int 0))) (tC (.int 1))) tc) δ (.int (hdL en ls : Int)) := by
  refine e_if (C' := fun b => b = !(ls.map LnD).isEmpty) (t_truL h) (fun hb => ?_) fun hb => ?_
  · cases ls with
    | nil => cases hb
    | cons x r => exact e_hd0 h
  · cases ls with
    | nil => exact h2
    | cons x r => cases hb
end
variable {PP : Program} {w : World} {K : PySem.W.Frag} {T : List (Addr × Str)} {P : List Addr} {mg : Str → Option Value} {base : Heap} {C fI aP aS aW : Addr} {fdI : FuncData}
theorem sc_read_machine : FnScope ["text", "lines", "end", "words", "at", "prime", "many", "tables", "word", "most", "begin"] ["text"] (defScope (topS 37)) := ⟨rfl, rfl, rfl, by decide +kernel, rfl, by decide +kernel, by decide +kernel⟩
abbrev sp_rmach (K : PySem.W.Frag) (T : List (Addr × Str)) (P : List Addr) (C : Addr) : Sp := spX K T P C (ι := Str) (fun i => [.str i]) (fun i => i.length ≤ 20000)
  (fun i d => ∃ q, machR i = .ok q ∧ d = q.d) (fun i l p => ∃ a b : Nat, machR i = .error (a, b) ∧ l = (a : Int) ∧ p = (b : Int))
theorem ok_rmach {f f1 f2 f3 f4 f5 f6 : Addr} {fd fd1 fd2 fd3 fd4 fd5 fd6 : FuncData} (TT : Tx K mg) (GG : Gx K mg aP aS aW) (BL : BLx K mg C fI fdI) (F : Dfn K mg "read_machine" 37 ["text"] f fd)
    (D_need_text : Dfn K mg "need_text" 31 ["value"] f1 fd1) (G_need_text : FnOk PP w K mg base CX0 1 f1 fd1 ["value"] (sp_ntS K T P))
    (D_lines_in : Dfn K mg "lines_in" 33 ["text"] f2 fd2) (G_lines_in : FnOk PP w K mg base CX0 2 f2 fd2 ["text"] (sp_lines K T P))
    (D_number_at : Dfn K mg "number_at" 34 ["words", "place", "high", "at"] f3 fd3) (G_number_at : FnOk PP w K mg base (L2.CX PP w) 6 f3 fd3 ["words", "place", "high", "at"] (sp_numat K T P C))
    (D_need_end : Dfn K mg "need_end" 35 ["words", "many", "at"] f4 fd4) (G_need_end : FnOk PP w K mg base (L2.CX PP w) 3 f4 fd4 ["words", "many", "at"] (sp_nend K T P C))
    (D_rows_at : Dfn K mg "rows_at" 36 ["lines", "word", "prime", "many", "most"] f5 fd5) (G_rows_at : FnOk PP w K mg base (L2.CX PP w) 8 f5 fd5 ["lines", "word", "prime", "many", "most"] (spRows K T P C))
    (D_is_undone : Dfn K mg "is_undone" 38 ["prime", "table"] f6 fd6) (G_is_undone : FnOk PP w K mg base CX0 3 f6 fd6 ["prime", "table"] (sp_undone K T P)) :
    FnOk PP w K mg base (L2.CX PP w) 9 f fd ["text"] (sp_rmach K T P C) := by
  refine F.okX sc_read_machine (spX_len fun _ => rfl) fun cdv A outer s H vs Q XE hr h => ?_
  obtain ⟨t, W, e, r, g, ht, k, kx⟩ := h
  dsimp only at ht k kx r
  refine ⟨_, (pss_cons (ps_expr (pe_call G_need_text (hr.mono (by decide)) (by rfl) D_need_text.mg D_need_text.kp D_need_text.b .nil pass0 (pa_cons (pv 0) pa_nil)))
      (pss_cons (ps_par (i := 1) (j := 2) (by rfl) sc_read_machine.nd rfl rfl (by decide) rfl rfl (pa_cons (pe_call G_lines_in (hr.mono (by decide)) (by rfl) D_lines_in.mg D_lines_in.kp D_lines_in.b .nil pass0 (pa_cons (pv 0) pa_nil)) (pa_cons (pe_op op_add (pe_callB (lenK K) (by rfl) TT.b_len (by decide +kernel) (pa_cons (pe_split (pv 0) pe_str) pa_nil)) pe_int) pa_nil)) (by rfl))
      (pss_cons (ps_if (PW.pt (pw_or (pt_not (pt_truK K (pv 1))) (pw_or1 (pt_cmpR op_ne (pe_ix (ixL K) (pe_ix (ixT K) (pe_ix (ixL K) (pv 1) pe_int (fun _ _ => rfl)) pe_int (fun _ _ => rfl)) pe_int (fun _ _ => rfl)) pe_str (nomark _)))))
      (pss_one (L2.ps_raise rfl (takes_of rfl rfl rfl rfl) (pmk_oex BL.T BL.iC BL.tI (ok_init BL) (hr.mono (by decide)) BL.b .nil pass0 (by rfl) BL.mg (pa_cons (pe_ifExp (pt_truK K (pv 1)) (pe_ix (ixT K) (pe_ix (ixL K) (pv 1) pe_int (fun _ _ => rfl)) pe_int (fun _ _ => rfl)) (pv 2)) (pa_cons pe_int pa_nil)))))
      pss_nil)
      (pss_cons (ps_asg (pe_bm PySem.F.plainAttrs_list PySem.F.slot_list_pop PySem.F.type_list_pop mt_popAt (pv 1) (pa_cons pe_int pa_nil)) (pg_tup (by rfl) (pgs_cons (pg_name (i := 3) sc_read_machine.nd rfl (Or.inl rfl)) (pgs_cons (pg_name (i := 4) sc_read_machine.nd rfl (Or.inl rfl)) pgs_nil))))
      (pss_cons (ps_set (i := 5) sc_read_machine.nd rfl (Or.inl rfl) (pe_callS G_number_at (hr.mono (by decide)) (by rfl) D_number_at.mg D_number_at.kp D_number_at.b (fun σ => passAt (takes_of rfl rfl rfl rfl) σ) (pa_cons (pv 3) (pa_cons pe_int (pa_cons pe_int (pa_cons (pv 4) pa_nil))))))
      (pss_cons (ps_if (pt_cmpR (notInK K) (pv 5) (pe_glob (v := .ref aP) (by rfl) GG.g_PRIMES rfl) (by rfl))
      (pss_one (L2.ps_raise rfl (takes_of rfl rfl rfl rfl) (pmk_oex BL.T BL.iC BL.tI (ok_init BL) (hr.mono (by decide)) BL.b .nil pass0 (by rfl) BL.mg (pa_cons (pv 4) (pa_cons pe_int pa_nil)))))
      pss_nil)
      (pss_cons (ps_expr (pe_callS G_need_end (hr.mono (by decide)) (by rfl) D_need_end.mg D_need_end.kp D_need_end.b (fun σ => passAt (takes_of rfl rfl rfl rfl) σ) (pa_cons (pv 3) (pa_cons pe_int (pa_cons (pv 4) pa_nil)))))
      (pss_cons (ps_set (i := 6) sc_read_machine.nd rfl (Or.inl rfl) (pe_ifExp (pt_truK K (pv 1)) (pe_callB (call_min2 rfl) (by rfl) TT.b_min (by decide +kernel) (pa_cons (pe_globI (by rfl) GG.g_MOST_CELLS) (pa_cons (pe_op op_sub (pe_callB (lenK K) (by rfl) TT.b_len (by decide +kernel) (pa_cons (pe_ix (ixT K) (pe_ix (ixL K) (pv 1) pe_int (fun _ _ => rfl)) pe_int (fun _ _ => rfl)) pa_nil)) pe_int) pa_nil))) pe_int))
      (pss_cons (ps_set (i := 7) sc_read_machine.nd rfl (Or.inl rfl) (pe_lst pa_nil))
      (pss_cons (ps_for PassesOwn.leaving rfl (piT K (pe_tup (pa_cons (pe_tup (pa_cons pe_str (pa_cons (pe_callB (call_max2 rfl) (by rfl) TT.b_max (by decide +kernel) (pa_cons pe_int (pa_cons (pv 6) pa_nil))) pa_nil))) (pa_cons (pe_tup (pa_cons pe_str (pa_cons (pe_globI (by rfl) GG.g_MOST_PLUGS) pa_nil))) (pa_cons (pe_tup (pa_cons pe_str (pa_cons (pe_globI (by rfl) GG.g_MOST_PLUGS) pa_nil))) pa_nil))))) (pg_tup (by rfl) (pgs_cons (pg_name (i := 8) sc_read_machine.nd rfl (Or.inl rfl)) (pgs_cons (pg_name (i := 9) sc_read_machine.nd rfl (Or.inl rfl)) pgs_nil)))
      (pss_cons (ps_set (i := 10) sc_read_machine.nd rfl (Or.inl rfl) (pe_ifExp (pt_truK K (pv 1)) (pe_ix (ixT K) (pe_ix (ixL K) (pv 1) pe_int (fun _ _ => rfl)) pe_int (fun _ _ => rfl)) (pv 2)))
      (pss_cons (ps_expr (pe_bm PySem.F.plainAttrs_list PySem.F.slot_list_append PySem.F.type_list_append mt_append (pv 7) (pa_cons (pe_callS G_rows_at (hr.mono (by decide)) (by rfl) D_rows_at.mg D_rows_at.kp D_rows_at.b (fun σ => passAt (takes_of rfl rfl rfl rfl) σ) (pa_cons (pv 1) (pa_cons (pv 8) (pa_cons (pv 5) (pa_cons (pe_callB (call_max2 rfl) (by rfl) TT.b_max (by decide +kernel) (pa_cons pe_int (pa_cons (pv 6) pa_nil))) (pa_cons (pv 9) pa_nil)))))) pa_nil)))
      (pss_one (ps_if (PW.pt (pw_or (pt_not (pt_truK K (pe_ix (ixL K) (pv 7) (pe_un un_neg pe_int) (fun _ _ => rfl)))) (pw_or1 (PW.pt (pw_and (pt_cmpR op_eq (pv 8) pe_str (nomark _)) (pw_and1 (pt_not (pt_val (pe_call G_is_undone (hr.mono (by decide)) (by rfl) D_is_undone.mg D_is_undone.kp D_is_undone.b .nil pass0 (pa_cons (pv 5) (pa_cons (pe_ix (ixL K) (pv 7) (pe_un un_neg pe_int) (fun _ _ => rfl)) pa_nil)))))))))))
      (pss_one (L2.ps_raise rfl (takes_of rfl rfl rfl rfl) (pmk_oex BL.T BL.iC BL.tI (ok_init BL) (hr.mono (by decide)) BL.b .nil pass0 (by rfl) BL.mg (pa_cons (pe_ifExp (PW.pt (pw_and (pt_cmpR op_eq (pv 8) pe_str (nomark _)) (pw_and1 (pt_truK K (pe_ix (ixL K) (pv 7) (pe_un un_neg pe_int) (fun _ _ => rfl)))))) (pv 10) (pe_ifExp (pt_truK K (pv 1)) (pe_ix (ixT K) (pe_ix (ixL K) (pv 1) pe_int (fun _ _ => rfl)) pe_int (fun _ _ => rfl)) (pv 2))) (pa_cons pe_int pa_nil)))))
      pss_nil)))))
      (pss_cons (ps_if (pt_truK K (pv 1))
      (pss_one (L2.ps_raise rfl (takes_of rfl rfl rfl rfl) (pmk_oex BL.T BL.iC BL.tI (ok_init BL) (hr.mono (by decide)) BL.b .nil pass0 (by rfl) BL.mg (pa_cons (pe_ix (ixT K) (pe_ix (ixL K) (pv 1) pe_int (fun _ _ => rfl)) pe_int (fun _ _ => rfl)) (pa_cons pe_int pa_nil)))))
      pss_nil)
      (pss_one (ps_ret (pe_tup (pa_cons (pv 5) (pa_cons (pe_ix (ixL K) (pv 7) pe_int (fun _ _ => rfl)) (pa_cons (pe_ix (ixL K) (pv 7) pe_int (fun _ _ => rfl)) (pa_cons (pe_ix (ixL K) (pv 7) pe_int (fun _ _ => rfl)) pa_nil)))))))))))))))))), ?_⟩
  have s0 := ss_start (N := ["text", "lines", "end", "words", "at", "prime", "many", "tables", "word", "most", "begin"]) e r g
  obtain ⟨hl1, hl2⟩ := linesOf_ok ht
  have lok0 : LnsOk (linesOf t) := ⟨hl1, hl2⟩
  have hz := PyProof.Rows.split_le t "\n"
  refine s_drop (A := fun d => d = .non) (e_call t (a_1 (e_var rfl)) trivial) s0 fun W1 H1 z1 s1 => ?_
  dsimp only
  have hp : machR t = machL ((Txt.split t "\n").length + 1) (linesOf t) := rfl
  generalize hen : (Txt.split t "\n").length + 1 = en at hp
  refine s_parL (c := .int (en : Int)) (el_call t (a_1 (e_var rfl)) ht) (E1.is (e_op (e_lenL (e_split (e_var rfl) e_str nl_nz (by omega))) e_int o_add) (by rw [len_map, ← hen]; rfl)) s1 fun ds pL v W2 H2 hds s2 o2 => ?_
  subst hds
  dsimp only
  generalize linesOf t = ls at hp lok0 o2
  have s2 : SS K T P W W H W2 H2 [.d (.str t), .own pL, .d (.int (en : Int)), .no, .no, .no, .no, .no, .no, .no, .no] _ := s2
  cases ls with
  | nil =>
    refine s_ifL (n := 1) rfl o2 s2 (C := fun b => b = true) (t_or1 (k := true) (l := false) (t_not1 (k := false) (Et1.is (t_truL (l := []) (e_var rfl)) rfl)) fun hb => absurd hb (by decide)) (fun _ H3 e3 s3 => ?_) fun hb => absurd hb (by decide)
    refine s_raiseV (a_2 (e_hd (ls := []) (en := en) (e_var rfl) (e_var rfl)) e_int) (SS.look (n := 1) s3.r s3.y.to (o2.stay e3) rfl) (Ex.refl _) (s3.y.up.trans s3.y.to) fun dx H' ex hx => kx _ _ dx H' ⟨_, _, hp, rfl, rfl⟩ ex hx
  | cons x rr =>
  have hx := lok0.ws x (List.mem_cons_self ..)
  have h00 : atI (x.1.map D.str) ((0 : Nat) : Int) = some (.str (x.1.getD 0 Str.empty)) := atI_nat (by rw [List.getElem?_map, List.getElem?_eq_getElem (by omega), List.getD_eq_getElem?_getD, List.getElem?_eq_getElem (by omega)]; rfl)
  have h0 : atI ((x :: rr).map LnD) ((0 : Nat) : Int) = some (LnD x) := atI_nat rfl
  refine s_ifL (n := 1) rfl o2 s2 (C := fun b => b = !decide (x.1.getD 0 Str.empty = ("prime" : Str))) (t_or1 (k := false) (l := !decide (x.1.getD 0 Str.empty = ("prime" : Str))) (t_not1 (k := true) (Et1.is (t_truL (l := (x :: rr).map LnD) (e_var rfl)) rfl)) fun _ => t_t (e_op (e_op (e_op (e_op (e_var rfl) e_int (o_ixL h0)) e_int (o_ixT rfl)) e_int (o_ixL h00)) e_str o_neS)) (fun hb H3 e3 s3 => ?_) fun hb H3 e3 s3 => ?_
  · have hne : ¬ x.1.getD 0 Str.empty = ("prime" : Str) := fun z => by
      rw [decide_eq_true z] at hb
      cases hb
    refine s_raiseV (a_2 (e_hd (ls := x :: rr) (en := en) (e_var rfl) (e_var rfl)) e_int) (SS.look (n := 1) s3.r s3.y.to (o2.stay e3) rfl) (Ex.refl _) (s3.y.up.trans s3.y.to) fun dx H' ex hx => kx _ _ dx H' ⟨_, _, by rw [hp, machL_cons, if_neg hne]; rfl, rfl, rfl⟩ ex hx
  have hpr : x.1.getD 0 Str.empty = ("prime" : Str) := by
    cases q : decide (x.1.getD 0 Str.empty = ("prime" : Str)) with
    | true => exact of_decide_eq_true q
    | false =>
      rw [q] at hb
      cases hb
  rw [machL_cons, if_pos hpr] at hp
  have o3 := o2.stay e3
  try unfold tNext
  try dsimp only
  refine s_popT (n := 1) (d := LnD x) (ds := rr.map LnD) (vs := [3, 4]) rfl o3 (rowD_lns rr) s3 tg_pair fun σ4 xs4 s4 o4 => ?_
  try dsimp only
  have s4 : SS K T P W W H W2 _ [.d (.str t), .own pL, .d (.int (en : Int)), .d (strsD x.1), .d (.int (x.2 : Int)), .no, .no, .no, .no, .no, .no] _ := s4
  refine s_asg (e_callX (x.1, 1, (7 : Int), (x.2 : Int)) (a_cons (e_var rfl) (a_3 e_int e_int (e_var rfl))) hx.2 fun l p dx H' σ he ex hd => ?_) s4 fun d v W5 H5 hd z5 s5 => ?_
  · obtain ⟨h1, rfl, rfl⟩ := he
    dsimp only at h1
    rw [numAt_opt, isN_opt] at h1
    refine kx _ _ _ _ ⟨x.2, 2, ?_, rfl, rfl⟩ ex hd
    rw [hp]
    cases q : numP x.1 1 7 with
    | none => rfl
    | some n =>
      rw [q] at h1
      cases h1
  obtain ⟨rfl, h2⟩ := hd
  dsimp only at h2 s5
  rw [numAt_opt] at h2 s5
  rw [isN_opt] at h2
  have o5 := o4.step z5.vv
  cases hq : numP x.1 1 7 with
  | none =>
    rw [hq] at h2
    cases h2
  | some p =>
  rw [hq] at s5 hp
  dsimp only at hp
  have s5 : SS K T P W W H W5 H5 [.d (.str t), .own pL, .d (.int (en : Int)), .d (strsD x.1), .d (.int (x.2 : Int)), .d (.int p), .no, .no, .no, .no, .no] _ := s5
  try dsimp only
  refine s_if1 (k := !prB p) (Et1.is (t_t (e_op (a := .int p) (e_var (n := 5) rfl) (e_c (d := .tup [.int 2, .int 3, .int 5, .int 7]) GG.d_PRIMES) (o_inT (x := .int p) (xs := [.int 2, .int 3, .int 5, .int 7]) (neg := true) rfl rfl rfl rfl))) (if_pos rfl)) s5 (fun hb H6 e6 s6 => ?_) (fun hb H6 e6 s6 => ?_)
  · have hne : ¬ prB p = true := fun z => by
      rw [z] at hb
      cases hb
    rw [if_neg hne] at hp
    refine s_raiseBL (a_2 (e_var rfl) e_int) s6 fun dx H' ex hx' => kx _ _ dx H' ⟨x.2, 2, hp, rfl, rfl⟩ ex hx'
  have hpb : prB p = true := by
    cases q : prB p with
    | true => rfl
    | false =>
      rw [q] at hb
      cases hb
  rw [if_pos hpb] at hp
  have ipr := prB_pr hpb
  have pb := ipr.pos
  have o6 := o5.stay e6
  try unfold tNext
  try dsimp only
  refine s_dropA (e_callX (x.1, 2, (x.2 : Int)) (a_3 (e_var rfl) e_int (e_var rfl)) trivial fun l p dx H' σ he ex hd => ?_) s6 fun d hd W7 H7 z7 s7 => ?_
  · obtain ⟨rfl, h2, rfl⟩ := he
    have h2 : 2 < x.1.length := h2
    rw [if_pos h2] at hp
    exact kx _ _ dx H' ⟨x.2, 3, hp, rfl, rfl⟩ ex hd
  obtain ⟨rfl, hle⟩ := hd
  have hle : x.1.length ≤ 2 := hle
  rw [if_neg (by omega)] at hp
  have o7 := o6.step z7.vv
  have rok := lok0.tail
  try dsimp only
  -- many
  have hmany : E1 K T P W (tIf (fun σ H Q => tVar 1 σ H fun x H' => ∃ k, TruV K x H' k ∧ Q k H') (tCB (fun xs H Q => ∃ i j, xs = [.int i, .int j] ∧ Q (.int (if j < i then j else i)) H) (tCons (tC (.int 4)) (tCons (tOp (rI0 fun i j => .int (i - j)) (tCB (fun xs H Q => ∃ x n, xs = [x] ∧ LenV K x H n ∧ Q (.int n) H) (tCons (tOp (rIxT K) (tOp (rIxL K) (tVar 1) (tC (.int 0))) (tC (.int 0))) tNil)) (tC (.int 1))) tNil))) (tC (.int 0)))
      [.d (.str t), .d (.lst (rr.map LnD)), .d (.int (en : Int)), .d (strsD x.1), .d (.int (x.2 : Int)), .d (.int p), .no, .no, .no, .no, .no] (.int (manyR rr : Int)) := by
    refine e_if (C' := fun b => b = !(rr.map LnD).isEmpty) (t_truL (e_var rfl)) (fun hb => ?_) fun hb => ?_
    · cases rr with
      | nil => cases hb
      | cons y r2 =>
        have hy := rok.ws y (List.mem_cons_self ..)
        refine E1.is (e_cb (a_2 (e_c (d := .int 4) fun _ => rfl) (e_op (e_lenL (l := y.1.map .str) (e_op (e_op (e_var rfl) e_int (o_ixL (show atI ((y :: r2).map LnD) ((0 : Nat) : Int) = some (LnD y) from atI_nat rfl))) e_int (o_ixT rfl))) e_int o_sub)) c_min2) ?_
        rw [len_map]
        show D.int _ = D.int ((min 4 (y.1.length - 1) : Nat) : Int)
        congr 1
        split <;> omega
    · cases rr with
      | nil => exact e_c fun _ => rfl
      | cons y r2 => cases hb
  refine s_asgLk (n := 1) (k := 6) (i := (manyR rr : Int)) rfl o7 s7 hmany fun H8 e8 s8 => ?_
  try dsimp only
  have o8 := o7.stay e8
  generalize hmm : max 1 (manyR rr) = mm at hp
  have hm4 : mm ≤ 4 ∧ 1 ≤ mm := by
    have : manyR rr ≤ 4 := by
      unfold manyR
      split <;> omega
    omega
  have hmx : ∀ {δ : List Sl}, δ[6]? = some (.d (.int (manyR rr : Int))) → E1 K T P W (tCB (fun xs H Q => ∃ i j, xs = [.int i, .int j] ∧ Q (.int (if j > i then j else i)) H) (tCons (tC (.int 1)) (tCons (tVar 6) tNil))) δ (.int (mm : Int)) := fun h => by
    refine E1.is (e_cb (a_2 e_int (e_var h)) c_max2) ?_
    congr 1
    split <;> omega
  refine s_asgL (A := fun l => l = []) (el_lst a_nil) s8 fun ds q W9 H9 hA v9 s9 o9 hq9 => ?_
  subst hA
  have oL := o8.step v9
  have npq : pL ≠ q := fun z => by
    obtain ⟨_, _, xs, h1, _⟩ := o8
    rw [z, hq9] at h1
    cases h1
  try dsimp only
  have s9 : SS K T P W W H W9 H9 [.d (.str t), .own pL, .d (.int (en : Int)), .d (strsD x.1), .d (.int (x.2 : Int)), .d (.int p), .d (.int (manyR rr : Int)), .own q, .no, .no, .no] _ := s9
  refine s_for (io_tup (l := (wlR mm).map wdD) (e_tup (a_3 (e_tup (a_2 e_str (hmx rfl)) (hl := by show 2 ≤ 100000; omega)) (e_tup (a_2 e_str (e_c (d := .int 4) fun _ => rfl))) (e_tup (a_2 e_str (e_c (d := .int 4) fun _ => rfl)))) (hl := by show 3 ≤ 100000; omega))) s9 fun n el W10 H10 hz z10 s10 => ?_
  obtain ⟨hn, rfl⟩ := hz
  have hn : n = 3 := hn
  subst hn
  refine ⟨fun i σ' W' H' => ∃ (tb : List (List (List Int))) (rest : List Ln) (a b c : Sl), tb.length = i ∧ LnsOk rest ∧ loopR en p mm (wlR mm) rr = putL tb (loopR en p mm ((wlR mm).drop i) rest) ∧ (∀ x ∈ tb, x ≠ []) ∧ Ex K T W10 W' ∧
    SS K T P W W H W' H' [.d (.str t), .own pL, .d (.int (en : Int)), .d (strsD x.1), .d (.int (x.2 : Int)), .d (.int p), .d (.int (manyR rr : Int)), .own q, a, b, c] σ' ∧ Ow K W' H H' pL (rest.map LnD) ∧ Ow K W' H H' q (tb.map rowsT), ?_, ?_, ?_, ?_⟩
  · refine ⟨[], rr, _, _, _, rfl, rok, ?_, fun x hx => (by cases hx), Ex.refl _, s10, oL.step z10.vv, o9.step z10.vv⟩
    show _ = putL [] (loopR en p mm (wlR mm) rr)
    cases loopR en p mm (wlR mm) rr with
    | error e => rfl
    | ok z => rfl
  · rintro i σ' W' H' _ ⟨tb, rest, a, b, c, _, _, _, _, e1, ss, _⟩
    exact ⟨e1, _, ss⟩
  · rintro i σ' W' H' hi ⟨tb, rest, a, b, c, hti, rok', rel, hne, e1, ss, oa, oq⟩
    have hiw : i < (wlR mm).length := hi
    have hwi : ((wlR mm).map wdD).getD i .non = wdD ((wlR mm).getD i ("", 0)) := by
      rw [List.getD_eq_getElem?_getD, List.getElem?_map, List.getElem?_eq_getElem hiw, List.getD_eq_getElem?_getD, List.getElem?_eq_getElem hiw]
      rfl
    have hx4 : ((wlR mm).getD i ("", 0)).2 ≤ 4 := by
      rcases (by omega : i = 0 ∨ i = 1 ∨ i = 2) with rfl | rfl | rfl
      · exact hm4.1
      · exact Nat.le_refl 4
      · exact Nat.le_refl 4
    rw [drop_get (wlR mm) ("", 0) hiw] at rel
    generalize (wlR mm).getD i ("", 0) = wm at rel hwi hx4
    rw [loopR_cons] at rel
    refine ⟨_, [.d (.str t), .own pL, .d (.int (en : Int)), .d (strsD x.1), .d (.int (x.2 : Int)), .d (.int p), .d (.int (manyR rr : Int)), .own q, .d (.str wm.1), .d (.int (wm.2 : Int)), c], [8, 9], ss, Tg.cast hwi tg_pair, fun σ2 W11 H11 z11 s11 => ?_⟩
    have oa11 := oa.step z11.vv
    have oq11 := oq.step z11.vv
    try dsimp only
    refine s_asgLk (n := 1) (k := 10) (i := (hdL en rest : Int)) rfl oa11 s11 (e_hd (e_var rfl) (e_var rfl)) fun H12 e12 s12 => ?_
    have oa12 := oa11.stay e12
    have oq12 := oq11.stay e12
    try dsimp only
    have s12 : SS K T P W W H W11 H12 [.d (.str t), .own pL, .d (.int (en : Int)), .d (strsD x.1), .d (.int (x.2 : Int)), .d (.int p), .d (.int (manyR rr : Int)), .own q, .d (.str wm.1), .d (.int (wm.2 : Int)), .d (.int (hdL en rest : Int))] _ := s12
    obtain ⟨y7, hy7, ey7⟩ := rps_get s12.r.s (n := 7) (s := .own q) rfl
    obtain rfl : y7 = some (.ref q) := ey7
    obtain ⟨qw, qh, qs, q1, qr, qg⟩ := id oq12
    refine ⟨_, hy7, Or.inl ⟨rfl, qs, SqL.of q1⟩, ?_⟩
    refine c_rows (n := 1) (i := ⟨rest, wm.1, p, mm, wm.2⟩) rfl oa12 s12 (a_cons (e_var rfl) (a_3 (e_var rfl) (hmx rfl) (e_var rfl))) ⟨rok', by show 1 ≤ p; omega, by show mm ≤ 100; omega, by show wm.2 ≤ 100; omega⟩ (fun rs ls' v W13 H13 hr ex13 s13 oa13 keep rv => ?_) fun a b dx H' hr ex hdx => ?_
    · have hr : rowsR wm.1 p mm wm.2 0 rest = .ok (rs, ls') := hr
      rw [hr] at rel
      dsimp only at rel
      obtain ⟨rok2, hlen, hrows⟩ := rowsR_ok rok' (Nat.zero_le _) hr
      have oq13 := keep q _ (Ne.symm npq) oq12
      have z : tb.map rowsT ++ [rowsT rs] = (tb ++ [rs]).map rowsT := by
        rw [List.map_append]
        rfl
      have ltb : (tb.map rowsT).length = i := by rw [len_map, hti]
      unfold tNil
      dsimp only
      refine s_appV oq13 s13 rv (by omega) ?_ fun xs s14 oq14 => ?_
      · rw [z]
        exact rowD_nints fun d hd => by
          obtain ⟨_, _, rfl⟩ := List.mem_map.mp hd
          rfl
      have oa14 := oa13.other (o := .lst xs) npq
      try dsimp only
      have hlast : atI (tb.map rowsT ++ [rowsT rs]) (-1) = some (rowsT rs) := by
        unfold atI ixN
        rw [List.length_append, ltb, if_neg (by omega), if_pos (by show -((i + 1 : Nat) : Int) ≤ -1; omega)]
        show (tb.map rowsT ++ [rowsT rs])[((-1 : Int) + ((i + 1 : Nat) : Int)).toNat]? = _
        rw [show ((-1 : Int) + ((i + 1 : Nat) : Int)).toNat = i by omega, List.getElem?_append_right (by omega), ltb, Nat.sub_self]
        rfl
      have lrs : (rs.map rowT).isEmpty = rs.isEmpty := List.isEmpty_map ..
      refine s_ifL (n := 7) rfl oq14 s14 (C := fun b => b = (rs.isEmpty || (decide (wm.1 = ("stir" : Str)) && !undone p rs))) (t_or1 (k := rs.isEmpty) (l := (decide (wm.1 = ("stir" : Str)) && !undone p rs)) ((t_not1 (t_truT (l := rs.map rowT) (e_op (e_var rfl) (e_neg e_int) (o_ixL hlast)))).is (by rw [lrs]; cases rs.isEmpty <;> rfl)) fun hk => t_and1 (t_t (e_op (e_var rfl) e_str o_eqS)) fun hs => t_not1 (t_b (e_call (p, rs) (a_2 (e_var rfl) (e_op (e_var rfl) (e_neg e_int) (o_ixL hlast))) ⟨ipr, ?_, by show rs.length ≤ 100; omega, mm, hm4.2, by omega, hrows⟩))) (fun hb H15 e15 s15 => ?_) fun hb H15 e15 s15 => ?_
      · cases rs with
        | nil => cases hk
        | cons a b => exact Nat.succ_le_succ (Nat.zero_le _)
      · -- the raise
        have oa15 := oa14.stay e15
        have oq15 := oq14.stay e15
        have R2 := SS.look2 (n := 7) (SS.look (n := 1) s15.r s15.y.to oa15 rfl) s15.y.to oq15 rfl
        refine s_raiseV (l := ((if wm.1 = ("stir" : Str) ∧ rs.isEmpty = false then hdL en rest else hdL en ls' : Nat) : Int)) (a_2 (e_if (C' := fun b => b = (decide (wm.1 = ("stir" : Str)) && !rs.isEmpty)) (t_and1 (t_t (e_op (e_var rfl) e_str o_eqS)) fun hs => (t_truT (l := rs.map rowT) (e_op (e_var rfl) (e_neg e_int) (o_ixL hlast))).is (by rw [lrs])) (fun hb2 => ?_) fun hb2 => ?_) e_int) R2 (Ex.refl _) (s15.y.up.trans s15.y.to) fun dx H' ex hx' => kx _ _ dx H' ⟨_, 1, ?_, rfl, rfl⟩ ex hx'
        · have hb2 := hb2.symm
          rw [Bool.and_eq_true] at hb2
          rw [if_pos ⟨of_decide_eq_true hb2.1, by cases q2 : rs.isEmpty <;> first | rfl | (rw [q2] at hb2; cases hb2.2)⟩]
          exact e_var rfl
        · rw [if_neg]
          · exact e_hd (e_var rfl) (e_var rfl)
          · rintro ⟨a1, a2⟩
            rw [decide_eq_true a1, a2] at hb2
            cases hb2
        · rw [hp, rel]
          cases q2 : rs.isEmpty with
          | true => rw [if_pos rfl, if_neg fun z => Bool.noConfusion z.2]; rfl
          | false =>
            rw [q2] at hb
            have hb := hb.symm
            rw [Bool.false_or, Bool.and_eq_true] at hb
            have h1 := of_decide_eq_true hb.1
            have h2 : undone p rs = false := by cases q3 : undone p rs <;> first | rfl | (rw [q3] at hb; cases hb.2)
            rw [if_neg Bool.false_ne_true, if_pos ⟨h1, h2⟩, if_pos ⟨h1, rfl⟩]
            rfl
      · try unfold tNext
        have hb := hb.symm
        rw [Bool.or_eq_false_iff] at hb
        rw [if_neg (by rw [hb.1]; exact Bool.false_ne_true), if_neg] at rel
        · have w15 : Ex K T W10 W13 := e1.trans (z11.up.trans ex13)
          refine ⟨W13, tb ++ [rs], ls', _, _, _, by rw [List.length_append, hti]; rfl, rok2, ?_, ?_, w15, s15, oa14.stay e15, ?_⟩
          · rw [rel]
            generalize loopR en p mm ((wlR mm).drop (i + 1)) ls' = R
            cases R with
            | error e => rfl
            | ok zz =>
              show Except.ok (tb ++ rs :: zz.1, zz.2) = Except.ok (tb ++ [rs] ++ zz.1, zz.2)
              rw [List.append_assoc]
              rfl
          · intro y hy
            rcases List.mem_append.mp hy with hy | hy
            · exact hne y hy
            · rw [List.mem_singleton.mp hy]
              intro z2
              rw [z2] at hb
              cases hb.1
          · rw [← z]
            exact oq14.stay e15
        · rintro ⟨a1, a2⟩
          rw [decide_eq_true a1, a2] at hb
          cases hb.2
    · have hr : rowsR wm.1 p mm wm.2 0 rest = .error (a, b) := hr
      rw [hr] at rel
      exact kx _ _ dx H' ⟨a, b, by rw [hp, rel]; rfl, rfl, rfl⟩ ex hdx
  · rintro σ' W' H' ⟨tb, rest, a, b, c, hti, rok', rel, hne, e1, ss, oa, oq⟩
    have rel : loopR en p mm (wlR mm) rr = putL tb (.ok ([], rest)) := rel
    have rel2 : machR t = finR p mm (.ok (tb, rest)) := by
      rw [hp, rel]
      show finR p mm (.ok (tb ++ [], rest)) = _
      rw [List.append_nil]
    try dsimp only
    refine s_ifL (n := 1) rfl oa ss (C := fun b => b = !(rest.map LnD).isEmpty) (t_truL (e_var rfl)) (fun hb H15 e15 s15 => ?_) fun hb H15 e15 s15 => ?_
    · cases rest with
      | nil => cases hb
      | cons y r2 =>
        refine s_raiseV (a_2 (e_hd0 (x := y) (r := r2) (e_var rfl)) e_int) (SS.look (n := 1) s15.r s15.y.to (oa.stay e15) rfl) (Ex.refl _) (s15.y.up.trans s15.y.to) fun dx H' ex hx' => kx _ _ dx H' ⟨y.2, 1, rel2, rfl, rfl⟩ ex hx'
    · cases rest with
      | cons y r2 => cases hb
      | nil =>
        try unfold tNext
        try dsimp only
        obtain ⟨W16, s16, e16, _⟩ := s15.release (n := 7) (oq.stay e15) rfl
        match tb, hti with
        | [t1, t2, t3], _ =>
          refine s_ret1 (e_tup (a_cons (e_var (n := 5) rfl) (a_3 (e_op (e_var (n := 7) rfl) e_int (o_ixL (l := [t1, t2, t3].map rowsT) (d := rowsT t1) rfl)) (e_op (e_var (n := 7) rfl) e_int (o_ixL (l := [t1, t2, t3].map rowsT) (d := rowsT t2) rfl)) (e_op (e_var (n := 7) rfl) e_int (o_ixL (l := [t1, t2, t3].map rowsT) (d := rowsT t3) rfl)))) (hl := by show 4 ≤ 100000; omega)) s16 e fun v W' H2 z rv => k _ _ _ _ ⟨⟨p, mm, t1, t2, t3⟩, rel2, rfl⟩ z rv
end K11
/-! K11ZU: readers of what is no text; == of data; _law_alike. -/
namespace K11
open PySem PySem.Spec PyProof.Rows
open L2
/-! ### == of tuples and lists of flat data -/
def pdS : D → PyData
  | .bl b => .bool b
  | .int i => .int i
  | .str s => .str s
  | _ => .none
def flS : D → Bool
  | .non => true
  | .bl _ => true
  | .int _ => true
  | .str _ => true
  | _ => false
def pdD : D → PyData
  | .tup l => .tuple (l.map pdS)
  | .lst l => .list (l.map pdS)
  | d => pdS d
def flD : D → Bool
  | .tup l => l.all flS
  | .lst l => l.all flS
  | d => flS d
section
variable {K : PySem.W.Frag} {T : List (Addr × Str)} {W H : Hp} {X : Cx}
theorem dp_s {d : D} {v : V} (h : flS d = true) (r : Rp K W d v) : Dp K H v (pdS d) := by
  cases d with
  | non => cases (show v = .non from r); exact .non
  | bl b => cases (show v = .bl b from r); exact .bl b
  | int i => cases (show v = .int i from r); exact .int i
  | str s => cases (show v = .str s from r); exact .str s
  | lst _ => cases h
  | tup _ => cases h
  | row _ _ _ => cases h
theorem dp_l : ∀ {l : List D} {vs : List V}, l.all flS = true → RpL K W l vs → DpAll K H vs (l.map pdS)
  | [], [], _, _ => .nil
  | d :: l, v :: vs, h, ⟨r1, r2⟩ => by
    rw [List.all_cons, Bool.and_eq_true] at h
    exact .cons (dp_s h.1 r1) (dp_l h.2 r2)
  | [], _ :: _, _, h => False.elim h
  | _ :: _, [], _, h => False.elim h
theorem dp_d {d : D} {v : V} (h : flD d = true) (e : Ex K T W H) (r : Rp K W d v) : Dp K H v (pdD d) := by
  cases d with
  | non => exact dp_s (d := .non) h r
  | bl b => exact dp_s (d := (.bl b)) h r
  | int i => exact dp_s (d := (.int i)) h r
  | str s => exact dp_s (d := (.str s)) h r
  | lst l =>
    obtain ⟨a, xs, rfl, h1, g, h2⟩ := r
    exact .lst (SqL.of (e.keep _ _ h1 g)) (dp_l h h2)
  | tup l =>
    obtain ⟨a, xs, rfl, h1, h2⟩ := r
    exact .tup (ex_st e h1) (dp_l h h2)
  | row _ _ _ => cases h
theorem eqDK (K : PySem.W.Frag) (hu : X.A.units + 64 < cLine) (h : X.K = K := by rfl) : OpR X (compareOp .Eq) (rEqD K) := by
  subst h
  exact op_eqD hu
theorem neDK (K : PySem.W.Frag) (hu : X.A.units + 64 < cLine) (h : X.K = K := by rfl) : OpR X (compareOp .NotEq) (rNeD K) := by
  subst h
  exact op_neD hu
theorem o_eqD {a b : D} (ha : flD a = true) (hb : flD b = true) (sa : SeqAt.shaped (pdD a) = true) (sb : SeqAt.shaped (pdD b) = true) : Ro K T (rEqD K) a b (fun d => d = .bl (PyData.eqv (pdD a) (pdD b))) := by
  intro W x y W1 H1 _ e rx ry Q q
  exact ⟨_, _, dp_d ha e rx, dp_d hb e ry, sa, sb, q _ _ _ H1 rfl (Vw.same e) rp_b⟩
theorem o_neD {a b : D} (ha : flD a = true) (hb : flD b = true) (sa : SeqAt.shaped (pdD a) = true) (sb : SeqAt.shaped (pdD b) = true) : Ro K T (rNeD K) a b (fun d => d = .bl (!PyData.eqv (pdD a) (pdD b))) := by
  intro W x y W1 H1 _ e rx ry Q q
  exact ⟨_, _, dp_d ha e rx, dp_d hb e ry, sa, sb, q _ _ _ H1 rfl (Vw.same e) rp_b⟩
theorem o_neB {x y : Bool} : Ro K T rNe (.bl x) (.bl y) (fun d => d = .bl (!decide (x = y))) := fun _ => rv_neB
end
variable {PP : Program} {w : World} {K : PySem.W.Frag} {T : List (Addr × Str)} {P : List Addr} {mg : Str → Option Value} {base : Heap} {C : Addr}
abbrev sp_noT (K : PySem.W.Frag) (T : List (Addr × Str)) (P : List Addr) (C : Addr) : Sp := spB K T P C (ι := D) (fun i => [i]) notS
theorem ok_rmachX {f f1 : Addr} {fd fd1 : FuncData} (TT : Tx K mg) (F : Dfn K mg "read_machine" 37 ["text"] f fd)
    (D_need_text : Dfn K mg "need_text" 31 ["value"] f1 fd1) (G_need_text : FnOk PP w K mg base (L2.CX PP w) 1 f1 fd1 ["value"] (sp_ntX K T P C)) :
    FnOk PP w K mg base (L2.CX PP w) 2 f fd ["text"] (sp_noT K T P C) := by
  refine F.okX sc_read_machine (spB_len fun _ => rfl) fun cdv A outer s H vs Q XE hr h => ?_
  obtain ⟨x, W, e, r, g, hx, k⟩ := h
  dsimp only at k r
  refine ⟨_, pss_cons (ps_expr (pe_callS G_need_text (hr.mono (by decide)) (by rfl) D_need_text.mg D_need_text.kp D_need_text.b (fun σ => passAt (takes_of rfl rfl rfl rfl) σ) (pa_cons (pv 0) pa_nil))) pss_never, ?_⟩
  have s0 := ss_start (N := ["text", "lines", "end", "words", "at", "prime", "many", "tables", "word", "most", "begin"]) e r g
  exact s_dropA (A := fun _ => False) (e_callB x (a_1 (e_var rfl)) hx fun H' σ ex => k H' ex) s0 fun d hd W1 H1 z1 s1 => hd.elim
theorem ok_rprogX {f f1 : Addr} {fd fd1 : FuncData} (TT : Tx K mg) (F : Dfn K mg "read_program" 41 ["text"] f fd)
    (D_need_text : Dfn K mg "need_text" 31 ["value"] f1 fd1) (G_need_text : FnOk PP w K mg base (L2.CX PP w) 1 f1 fd1 ["value"] (sp_ntX K T P C)) :
    FnOk PP w K mg base (L2.CX PP w) 2 f fd ["text"] (sp_noT K T P C) := by
  refine F.okX sc_read_program (spB_len fun _ => rfl) fun cdv A outer s H vs Q XE hr h => ?_
  obtain ⟨x, W, e, r, g, hx, k⟩ := h
  dsimp only at k r
  refine ⟨_, pss_cons (ps_expr (pe_callS G_need_text (hr.mono (by decide)) (by rfl) D_need_text.mg D_need_text.kp D_need_text.b (fun σ => passAt (takes_of rfl rfl rfl rfl) σ) (pa_cons (pv 0) pa_nil))) pss_never, ?_⟩
  have s0 := ss_start (N := ["text", "lines", "found", "instruction", "line", "words", "at"]) e r g
  exact s_dropA (A := fun _ => False) (e_callB x (a_1 (e_var rfl)) hx fun H' σ ex => k H' ex) s0 fun d hd W1 H1 z1 s1 => hd.elim
/-! ### _law_alike of a datum with itself -/
def flI : D → Prop
  | .int _ => True
  | .str _ => True
  | _ => False
def AlikeOk : Nat → D → Prop
  | 0, d => flI d
  | n + 1, d => flI d ∨ ∃ l, d = .tup l ∧ l.length ≤ 7000 ∧ ∀ x ∈ l, AlikeOk n x
theorem sc_law_alike : FnScope ["_law_found", "_law_due", "_law_k"] ["_law_found", "_law_due"] (defScope (topS 45)) := ⟨rfl, rfl, rfl, by decide +kernel, rfl, by decide +kernel, by decide +kernel⟩
abbrev sp_alike (K : PySem.W.Frag) (T : List (Addr × Str)) (P : List Addr) (n : Nat) : Sp := spF K T P (ι := D) (fun i => [i, i]) (AlikeOk n) (fun i d => d = .bl true)
theorem alike_flat {W H H1 : Hp} {σ : L2.St} {Q : VK} {d : D} (hd : flI d) (e : Ex K T W H) (s : SS K T P W W H W H1 [.d d, .d d, .no] σ)
    (k : ∀ (d_1 : D) (v : V) (W' H' : Hp), d_1 = .bl true → Vw K T W H W' H' → Rp K W' d_1 v → Q v H') :
    (tSeq (tIfS (tOr (tTest (tOp (fun x y H Q => y = .non ∧ Q (.bl (decide (x = .non))) H) (tVar 1) (tC .non))) (tB (tCB (rIsi K) (tCons (tVar 1) (tCons (tC (.ty "str")) tNil)))))
      (tRet (tAndV (tOp rEq (tVar 0) (tVar 1)) (tOp rEq (tCB (rIsi K) (tCons (tVar 0) (tCons (tC (.ty "str")) tNil))) (tCB (rIsi K) (tCons (tVar 1) (tCons (tC (.ty "str")) tNil)))))) tNext)
      (tRet (tAndV (tCB (rIsi K) (tCons (tVar 0) (tCons (tC (.ty "int")) tNil))) (tAndV (tOp rEq (tCB (rIsi K) (tCons (tVar 0) (tCons (tC (.ty "bool")) tNil))) (tCB (rIsi K) (tCons (tVar 1) (tCons (tC (.ty "bool")) tNil)))) (tOp rEq (tVar 0) (tVar 1)))))) { nx := fun _ H' => Q .non H', rt := Q } σ H1 := by
  cases d with
  | str x =>
    refine s_if1 (k := true) (t_or1 (k := false) (l := true) (t_t (E1.is (e_op (a := .str x) (e_var rfl) e_non o_isN) rfl)) fun _ => t_b (e_isi (d := .str x) (e_var rfl) (kS _))) s (fun _ H2 e2 s2 => ?_) fun hb => absurd hb (by decide)
    refine s_ret1 (d := .bl true) (E1.is (e_andV (e_op (a := .str x) (b := .str x) (e_var rfl) (e_var rfl) o_eqS) fun _ => e_op (e_isi (d := .str x) (e_var rfl) (kS _)) (e_isi (d := .str x) (e_var rfl) (kS _)) o_eqB) ?_) s2 e fun v W' H2 z rv => k _ _ _ _ rfl z rv
    rw [decide_eq_true rfl, decide_eq_true rfl]
    rfl
  | int x =>
    refine s_if1 (k := false) (t_or1 (k := false) (l := false) (t_t (E1.is (e_op (a := .int x) (e_var rfl) e_non o_isN) rfl)) fun _ => t_b (e_isi (d := .int x) (e_var rfl) (kS _))) s (fun hb => absurd hb (by decide)) fun _ H2 e2 s2 => ?_
    try unfold tNext
    try dsimp only
    refine s_ret1 (d := .bl true) (E1.is (e_andV (e_isi (d := .int x) (e_var rfl) (kI _)) fun _ => e_andV (e_op (e_isi (d := .int x) (e_var rfl) (kB _)) (e_isi (d := .int x) (e_var rfl) (kB _)) o_eqB) fun _ => e_op (a := .int x) (b := .int x) (e_var rfl) (e_var rfl) o_eqI) ?_) s2 e fun v W' H2 z rv => k _ _ _ _ rfl z rv
    rw [decide_eq_true rfl, decide_eq_true rfl]
    rfl
  | _ => exact hd.elim
theorem ok_alike0 {f : Addr} {fd : FuncData} (TT : Tx K mg) (F : Dfn K mg "_law_alike" 45 ["_law_found", "_law_due"] f fd) : FnOk PP w K mg base CX0 1 f fd ["_law_found", "_law_due"] (sp_alike K T P 0) := by
  refine F.ok sc_law_alike (spF_len fun _ => rfl) fun cdv A outer s H vs Q XE hr h => ?_
  obtain ⟨d, W, e, r, g, hd, k⟩ := h
  dsimp only at k r
  refine ⟨_, (pss_cons (ps_if (pt_val (pe_callB (isiTK K) (by rfl) TT.b_isinstance (by decide +kernel) (pa_cons (pv 1) (pa_cons (pe_tup (pa_cons (pe_bltn (v := .ty "tuple") (u := .type "tuple") (by rfl) TT.b_tuple (by decide +kernel) rfl) (pa_cons (pe_bltn (v := .ty "list") (u := .type "list") (by rfl) TT.b_list (by decide +kernel) rfl) pa_nil))) pa_nil))))
      pss_never
      pss_nil)
      (pss_cons (ps_if (PW.pt (pw_or (pt_cmpR op_isN (pv 1) pe_non (nomark _)) (pw_or1 (pt_val (pe_callB (isiK K) (by rfl) TT.b_isinstance (by decide +kernel) (pa_cons (pv 1) (pa_cons (pe_bltn (v := .ty "str") (u := .type "str") (by rfl) TT.b_str (by decide +kernel) rfl) pa_nil)))))))
      (pss_one (ps_ret (pe_and (pe_cmpR op_eq (pv 0) (pv 1) (nomark _)) (pe_one (pe_cmpR op_eq (pe_callB (isiK K) (by rfl) TT.b_isinstance (by decide +kernel) (pa_cons (pv 0) (pa_cons (pe_bltn (v := .ty "str") (u := .type "str") (by rfl) TT.b_str (by decide +kernel) rfl) pa_nil))) (pe_callB (isiK K) (by rfl) TT.b_isinstance (by decide +kernel) (pa_cons (pv 1) (pa_cons (pe_bltn (v := .ty "str") (u := .type "str") (by rfl) TT.b_str (by decide +kernel) rfl) pa_nil))) (nomark _))))))
      pss_nil)
      (pss_one (ps_ret (pe_and (pe_callB (isiK K) (by rfl) TT.b_isinstance (by decide +kernel) (pa_cons (pv 0) (pa_cons (pe_bltn (v := .ty "int") (u := .type "int") (by rfl) TT.b_int (by decide +kernel) rfl) pa_nil))) (pe_and (pe_cmpR op_eq (pe_callB (isiK K) (by rfl) TT.b_isinstance (by decide +kernel) (pa_cons (pv 0) (pa_cons (pe_bltn (v := .ty "bool") (u := .type "bool") (by rfl) TT.b_bool (by decide +kernel) rfl) pa_nil))) (pe_callB (isiK K) (by rfl) TT.b_isinstance (by decide +kernel) (pa_cons (pv 1) (pa_cons (pe_bltn (v := .ty "bool") (u := .type "bool") (by rfl) TT.b_bool (by decide +kernel) rfl) pa_nil))) (nomark _)) (pe_one (pe_cmpR op_eq (pv 0) (pv 1) (nomark _))))))))), ?_⟩
  have s0 := ss_start (N := ["_law_found", "_law_due", "_law_k"]) e r g
  have hd : flI d := hd
  have ht : (dT d || dL d) = false := by cases d <;> first | rfl | exact hd.elim
  refine s_if1 (Et1.is (t_b (e_isi2 (d := d) (e_var rfl) (kT _) (kL _))) ht) s0 (fun hb => absurd hb (by decide)) fun _ H1 e1 s1 => ?_
  exact alike_flat hd e s1 k
theorem ok_alikeS {f : Addr} {fd : FuncData} {n : Nat} (TT : Tx K mg) (D_law_alike : Dfn K mg "_law_alike" 45 ["_law_found", "_law_due"] f fd) (G_law_alike : FnOk PP w K mg base CX0 (n + 1) f fd ["_law_found", "_law_due"] (sp_alike K T P n)) :
    FnOk PP w K mg base CX0 (n + 2) f fd ["_law_found", "_law_due"] (sp_alike K T P (n + 1)) := by
  refine D_law_alike.ok sc_law_alike (spF_len fun _ => rfl) fun cdv A outer s H vs Q XE hr h => ?_
  obtain ⟨d, W, e, r, g, hd, k⟩ := h
  dsimp only at k r
  refine ⟨_, (pss_cons (ps_if (pt_val (pe_callB (isiTK K) (by rfl) TT.b_isinstance (by decide +kernel) (pa_cons (pv 1) (pa_cons (pe_tup (pa_cons (pe_bltn (v := .ty "tuple") (u := .type "tuple") (by rfl) TT.b_tuple (by decide +kernel) rfl) (pa_cons (pe_bltn (v := .ty "list") (u := .type "list") (by rfl) TT.b_list (by decide +kernel) rfl) pa_nil))) pa_nil))))
      (pss_cons (ps_if (PW.pt (pw_or (pt_not (pt_val (pe_callB (isiTK K) (by rfl) TT.b_isinstance (by decide +kernel) (pa_cons (pv 0) (pa_cons (pe_tup (pa_cons (pe_bltn (v := .ty "tuple") (u := .type "tuple") (by rfl) TT.b_tuple (by decide +kernel) rfl) (pa_cons (pe_bltn (v := .ty "list") (u := .type "list") (by rfl) TT.b_list (by decide +kernel) rfl) pa_nil))) pa_nil))))) (pw_or1 (pt_cmpR op_ne (pe_callB (isiK K) (by rfl) TT.b_isinstance (by decide +kernel) (pa_cons (pv 0) (pa_cons (pe_bltn (v := .ty "list") (u := .type "list") (by rfl) TT.b_list (by decide +kernel) rfl) pa_nil))) (pe_callB (isiK K) (by rfl) TT.b_isinstance (by decide +kernel) (pa_cons (pv 1) (pa_cons (pe_bltn (v := .ty "list") (u := .type "list") (by rfl) TT.b_list (by decide +kernel) rfl) pa_nil))) (nomark _)))))
      (pss_one (ps_ret pe_bl))
      pss_nil)
      (pss_cons (ps_if (pt_cmpR op_ne (pe_callB (lenK K) (by rfl) TT.b_len (by decide +kernel) (pa_cons (pv 0) pa_nil)) (pe_callB (lenK K) (by rfl) TT.b_len (by decide +kernel) (pa_cons (pv 1) pa_nil)) (nomark _))
      (pss_one (ps_ret pe_bl))
      pss_nil)
      (pss_one (ps_ret (pe_cmpR (eqDK K hr.units) (pe_lc (g := gName 2) (own := [("_law_k", 2)]) (by rfl) sc_law_alike.nd (pi_range1 (by rfl) TT.b_range (pa_cons (pe_callB (lenK K) (by rfl) TT.b_len (by decide +kernel) (pa_cons (pv 1) pa_nil)) pa_nil)) (blkOk_by (own := [("_law_k", 2)]) (by rfl)) (fun _ _ _ _ _ => (pg_name (i := 2) sc_law_alike.nd rfl (Or.inl rfl))) (fun _ _ _ _ _ => (pts_one (pt_not (pt_val (pe_call G_law_alike hr (by rfl) D_law_alike.mg D_law_alike.kp D_law_alike.b .nil pass0 (pa_cons (pe_ix (ixT K) (pv 0) (pv 2) (fun _ _ => rfl)) (pa_cons (pe_ix (ixT K) (pv 1) (pv 2) (fun _ _ => rfl)) pa_nil))))))) (fun _ _ _ _ _ => (pv 2))) (pe_lst pa_nil) (nomark _))))))
      pss_nil)
      (pss_cons (ps_if (PW.pt (pw_or (pt_cmpR op_isN (pv 1) pe_non (nomark _)) (pw_or1 (pt_val (pe_callB (isiK K) (by rfl) TT.b_isinstance (by decide +kernel) (pa_cons (pv 1) (pa_cons (pe_bltn (v := .ty "str") (u := .type "str") (by rfl) TT.b_str (by decide +kernel) rfl) pa_nil)))))))
      (pss_one (ps_ret (pe_and (pe_cmpR op_eq (pv 0) (pv 1) (nomark _)) (pe_one (pe_cmpR op_eq (pe_callB (isiK K) (by rfl) TT.b_isinstance (by decide +kernel) (pa_cons (pv 0) (pa_cons (pe_bltn (v := .ty "str") (u := .type "str") (by rfl) TT.b_str (by decide +kernel) rfl) pa_nil))) (pe_callB (isiK K) (by rfl) TT.b_isinstance (by decide +kernel) (pa_cons (pv 1) (pa_cons (pe_bltn (v := .ty "str") (u := .type "str") (by rfl) TT.b_str (by decide +kernel) rfl) pa_nil))) (nomark _))))))
      pss_nil)
      (pss_one (ps_ret (pe_and (pe_callB (isiK K) (by rfl) TT.b_isinstance (by decide +kernel) (pa_cons (pv 0) (pa_cons (pe_bltn (v := .ty "int") (u := .type "int") (by rfl) TT.b_int (by decide +kernel) rfl) pa_nil))) (pe_and (pe_cmpR op_eq (pe_callB (isiK K) (by rfl) TT.b_isinstance (by decide +kernel) (pa_cons (pv 0) (pa_cons (pe_bltn (v := .ty "bool") (u := .type "bool") (by rfl) TT.b_bool (by decide +kernel) rfl) pa_nil))) (pe_callB (isiK K) (by rfl) TT.b_isinstance (by decide +kernel) (pa_cons (pv 1) (pa_cons (pe_bltn (v := .ty "bool") (u := .type "bool") (by rfl) TT.b_bool (by decide +kernel) rfl) pa_nil))) (nomark _)) (pe_one (pe_cmpR op_eq (pv 0) (pv 1) (nomark _))))))))), ?_⟩
  have s0 := ss_start (N := ["_law_found", "_law_due", "_law_k"]) e r g
  rcases hd with hd | ⟨l, rfl, hl, hall⟩
  · have ht : (dT d || dL d) = false := by cases d <;> first | rfl | exact hd.elim
    refine s_if1 (Et1.is (t_b (e_isi2 (d := d) (e_var rfl) (kT _) (kL _))) ht) s0 (fun hb => absurd hb (by decide)) fun _ H1 e1 s1 => ?_
    exact alike_flat hd e s1 k
  · refine s_if1 (k := true) (t_b (e_isi2 (d := .tup l) (e_var rfl) (kT _) (kL _))) s0 (fun _ H1 e1 s1 => ?_) fun hb => absurd hb (by decide)
    refine s_if1 (k := false) (t_or1 (k := false) (l := false) (t_not1 (k := true) (t_b (e_isi2 (d := .tup l) (e_var rfl) (kT _) (kL _)))) fun _ => t_t (E1.is (e_op (e_isi (d := .tup l) (e_var rfl) (kL _)) (e_isi (d := .tup l) (e_var rfl) (kL _)) o_neB) rfl)) s1 (fun hb => absurd hb (by decide)) fun _ H2 e2 s2 => ?_
    try unfold tNext
    try dsimp only
    refine s_if1 (k := false) (t_t (E1.is (e_op (e_lenT (l := l) (e_var rfl)) (e_lenT (l := l) (e_var rfl)) o_neI) (by rw [decide_eq_true rfl]; rfl))) s2 (fun hb => absurd hb (by decide)) fun _ H3 e3 s3 => ?_
    try unfold tNext
    try dsimp only
    have he : ([] : List D) = ((List.range l.length).filter (fun _ => false)).map fun (i : Nat) => D.int (i : Int) := by
      rw [List.filter_eq_nil_iff.mpr fun a _ => Bool.false_ne_true]
      rfl
    refine s_ret1 (d := .bl true) (E1.is (e_op (a := .lst []) (b := .lst []) (E1.is (El.e1 ?_) (congrArg D.lst he.symm)) (e_lst a_nil) (o_eqD rfl rfl rfl rfl)) rfl) s3 e fun v W' H2 z rv => k _ _ _ _ rfl z rv
    refine el_lcF (vs := [2]) (t := fun _ => false) (δ' := fun i => [.d (.tup l), .d (.tup l), .d (.int (i : Int))]) (io_rngN (m := l.length) (a_1 (e_lenT (l := l) (e_var rfl))) (by omega)) (fun i hi => ?_) (by omega) (fun i _ => by rw [List.filter_eq_nil_iff.mpr fun a _ => Bool.false_ne_true]; rfl) (fun i hi => ?_) fun i hi z => absurd z Bool.false_ne_true
    · exact tg_name
    have hq : atI l (i : Int) = some (l.getD i .non) := atI_nat (getDq hi)
    exact t_not1 (k := true) (t_b (e_call (l.getD i .non) (a_2 (e_op (e_var rfl) (e_var rfl) (o_ixT hq)) (e_op (e_var rfl) (e_var rfl) (o_ixT hq))) (hall _ (getD_mem hi))))
end K11
/-! K11ZV: _law_said_session. -/
namespace K11
open PySem PySem.Spec PyProof.Rows
open L2
theorem takes_len {X : Cx} {W : WX} (t : Takes X W) : Takes X (fun cls d σ H => σ.length = X.N.length → W cls d σ H) := fun u s' ⟨a, B, sI, pins, σ, H, cls, d, e, I, nb, up, sky, na, os, ag, w⟩ =>
  t u s' ⟨a, B, sI, pins, σ, H, cls, d, e, I, nb, up, sky, na, os, ag, w I.len⟩
/-- what _law_said_session answers: tl, what the work does -/
def TTs (C CS : Addr) (tl : XK → Hp → VK → Prop) (H : Hp) (Q : VK) : Prop :=
  tl (fun cls d H' => (cls = .ref C ∧ ∃ dx l p, d = some dx ∧ H' dx = some (.xd [("place", .int p), ("line", .int l)]) ∧ ∀ t, H' t = none → Q (.ref t) (upd H' t (.tup [.int l, .int p]))) ∨ (cls = .ref CS ∧ Q (.str "string") H')) H fun _ H' => Q .non H'
theorem sc_law_said : FnScope ["_law_work", "e"] ["_law_work"] (defScope (topS 51)) := ⟨rfl, rfl, rfl, by decide +kernel, rfl, by decide +kernel, by decide +kernel⟩
structure ExF (K : PySem.W.Frag) (mg : Str → Option Value) (C CS : Addr) : Prop where
  xf : XfC K C
  fl : PySem.W.findIn K (.ref C) "line" = some none
  fp : PySem.W.findIn K (.ref C) "place" = some none
  mgC : mg "BadLine" = some (.ref C)
  mgS : mg "BadString" = some (.ref CS)
  cc : PySem.W.exmOne K (.ref C) (.ref C) = some true
  sc : PySem.W.exmOne K (.ref CS) (.ref C) = some false
  ss : PySem.W.exmOne K (.ref CS) (.ref CS) = some true
theorem gives_said {X : Cx} {g C CS : Addr} {cdg : Value} {q : Str} (EF : ExF X.K X.mg C CS) : LamX.GivesTo X ["_law_work", "e"] "_law_said_session" (defScope (topS 51)) g cdg (defBody (topS 51)) "_law_work" q (TTs C CS) := by
  intro f c' s H Q tl hpe hc hq
  refine ⟨_, pss_cons (ps_try_manyA (tb := fun W => tDrop (fun σZ HZ Q => σZ[0]? = some (some (.ref f)) ∧ HZ c' = some (LamX.CodeO c' q) ∧ ∃ E : XK, (∀ cls d σ H', σ.length = 2 → E cls d H' → W cls d σ H') ∧ tl E HZ Q)) rfl rfl sc_law_said.nd LamX.takes0
    (fun W pn xe tk _ => pss_one (ps_expr ⟨fun pins s σ H Q I h => by
      obtain ⟨h1, h2, E, h3, h4⟩ := h
      exact (hpe _ pn xe E _ _ (takes_len tk) fun cls d σ' H' h hl => h3 cls d σ' H' hl h).run pins s σ H Q I ⟨h1, h2, h4⟩⟩))
    (HdsA.cons (i := 1) rfl rfl ⟨by rfl, by decide, .inl EF.mgC⟩ (fun a oe cls d pn hz hf => pss_one (ps_ret (pe_tup (pa_cons (pe_xf EF.xf EF.fl hz hf (pv 1)) (pa_cons (pe_xf EF.xf EF.fp hz hf (pv 1)) pa_nil)))))
      (HdsA.cons (i := 1) rfl rfl ⟨by rfl, by decide, .inl EF.mgS⟩ (fun a oe cls d pn hz hf => pss_one (ps_ret pe_str)) .nil)))
    (pss_one (ps_ret pe_non)), ?_⟩
  refine ⟨rfl, hc, _, fun cls d σ H' hl h => ?_, hq⟩
  match σ, hl with
  | [x0, x1], _ =>
    rcases h with ⟨rfl, dx, l, p, rfl, hx, k⟩ | ⟨rfl, k⟩
    · refine ⟨true, EF.cc, fun _ a ha => ?_, fun z => Bool.noConfusion z⟩
      refine ⟨_, rfl, rfl, rfl, dx, _, _, rfl, hx, rfl, _, rfl, rfl, rfl, dx, _, _, rfl, hx, rfl, by show 2 ≤ sizeLine; decide, fun t ht => k t ht⟩
    · exact ⟨false, EF.sc, fun z => Bool.noConfusion z, fun _ => ⟨true, EF.ss, fun _ a ha => k, fun z => Bool.noConfusion z⟩⟩
end K11
/-! K11MA: plain laws of numbers and words. -/
namespace K11
open PySem PySem.Spec PyProof.Rows
open TL (tl spl joinL numL)
/-! ### numbers -/
def digs (l : List Nat) : Prop := ∀ c ∈ l, 48 ≤ c ∧ c ≤ 57
theorem dv_snoc (l : List Nat) (d : Nat) : NumText.digitsVal (l ++ [d]) = NumText.digitsVal l * 10 + (d - 48) := by
  unfold NumText.digitsVal
  rw [List.foldl_append]
  rfl
theorem num_all (n : Nat) : NumText.digitsVal (numL n) = n ∧ digs (numL n) ∧ numL n ≠ [] ∧ (1 ≤ n → (numL n).getD 0 0 ≠ 48) := by
  induction n using Nat.strongRecOn with
  | _ n ih =>
    by_cases h : n < 10
    · rw [TL.numL_lt h]
      refine ⟨?_, fun c hc => ?_, by simp, fun h1 => ?_⟩
      · show 0 * 10 + (48 + n - 48) = n
        omega
      · rw [List.mem_singleton.mp hc]
        omega
      · show 48 + n ≠ 48
        omega
    · have h10 : 10 ≤ n := by omega
      obtain ⟨a1, a2, a3, a4⟩ := ih (n / 10) (by omega)
      rw [TL.numL_step h10]
      refine ⟨?_, fun c hc => ?_, by simp, fun h1 => ?_⟩
      · rw [dv_snoc, a1]
        omega
      · rcases List.mem_append.mp hc with hc | hc
        · exact a2 c hc
        · rw [List.mem_singleton.mp hc]
          omega
      · have q := a4 (by omega)
        cases hq : numL (n / 10) with
        | nil => exact absurd hq a3
        | cons x y =>
          rw [hq] at q
          exact q
theorem val_num : ∀ (k : Nat) (l : List Nat), l.length = k → digs l → l ≠ [] → (l = [48] ∨ l.getD 0 0 ≠ 48) → numL (NumText.digitsVal l) = l
  | 0, l, hk, _, hn, _ => absurd (List.eq_nil_of_length_eq_zero hk) hn
  | k + 1, l, hk, hd, hn, h0 => by
    obtain ⟨l', d, rfl⟩ : ∃ l' d, l = l' ++ [d] := ⟨l.dropLast, l.getLast hn, (List.dropLast_concat_getLast hn).symm⟩
    have hdd := hd d (by simp)
    rw [dv_snoc]
    by_cases hl : l' = []
    · subst hl
      show numL (0 * 10 + (d - 48)) = [d]
      rw [TL.numL_lt (by omega)]
      congr 1
      omega
    · have h1 : l'.getD 0 0 ≠ 48 := by
        cases l' with
        | nil => exact absurd rfl hl
        | cons x y =>
          rcases h0 with h0 | h0
          · have := congrArg List.length h0
            simp at this
          · exact h0
      have ih := val_num k l' (by rw [List.length_append] at hk; simp at hk; exact hk) (fun c hc => hd c (List.mem_append_left _ hc)) hl (.inr h1)
      have hpos : 1 ≤ NumText.digitsVal l' := by
        rcases Nat.eq_zero_or_pos (NumText.digitsVal l') with z | z
        · rw [z, TL.numL_lt (by omega)] at ih
          rw [← ih] at h1
          exact absurd rfl h1
        · exact z
      rw [TL.numL_step (by omega)]
      have e1 : (NumText.digitsVal l' * 10 + (d - 48)) / 10 = NumText.digitsVal l' := by omega
      have e2 : (NumText.digitsVal l' * 10 + (d - 48)) % 10 = d - 48 := by omega
      rw [e1, e2, ih]
      congr 2
      omega
theorem tl_numS (n : Nat) : tl (numS (n : Int)) = numL n := TL.tl_num n
theorem dig_iff (c : Nat) : dig c = true ↔ 48 ≤ c ∧ c ≤ 57 := by
  unfold dig
  rw [decide_eq_true_iff, fig_list]
  simp only [List.mem_cons, List.not_mem_nil, or_false]
  omega
theorem zero_tl : ("0" : Str) = ⟨#[48]⟩ := by decide +kernel
theorem chS_0 (x : Str) : (chS x 0 = ("0" : Str)) ↔ (tl x).getD 0 0 = 48 := by
  rw [zero_tl]
  unfold chS
  constructor
  · intro h
    have h2 := congrArg Str.cps h
    simpa using h2
  · intro h
    have h2 : x.cps.toList.getD 0 0 = 48 := h
    rw [h2]
theorem eq_0 (x : Str) : x = ("0" : Str) ↔ tl x = [48] := by
  rw [zero_tl]
  constructor
  · rintro rfl
    rfl
  · intro h
    exact TL.ext_tl h
theorem wholeB_iff (x : Str) : wholeB x = true ↔ (1 ≤ x.length ∧ x.length ≤ 5) ∧ digs (tl x) ∧ ((tl x).getD 0 0 = 48 → tl x = [48]) := by
  unfold wholeB
  rw [Bool.and_eq_true, Bool.and_eq_true, Bool.and_eq_true, decide_eq_true_iff, decide_eq_true_iff, List.all_eq_true]
  refine and_congr Iff.rfl (and_congr ?_ ?_)
  · exact forall_congr' fun c => forall_congr' fun _ => dig_iff c
  · rw [Bool.not_eq_true', Bool.and_eq_false_iff, decide_eq_false_iff_not, Bool.not_eq_false', decide_eq_true_iff, chS_0, eq_0]
    constructor
    · rintro (h | h) g
      · exact absurd g h
      · exact h
    · intro h
      by_cases g : (tl x).getD 0 0 = 48
      · exact .inr (h g)
      · exact .inl g
theorem whN_num {v hi : Int} (h0 : 0 ≤ v) (h1 : v ≤ hi) (h2 : hi ≤ 6000) : whN (numS v) hi = some v := by
  obtain ⟨n, rfl⟩ := Int.eq_ofNat_of_zero_le h0
  obtain ⟨a1, a2, a3, a4⟩ := num_all n
  have ht := tl_numS n
  have hv : wholeV (numS (n : Int)) = (n : Int) := by
    unfold wholeV
    show ((NumText.digitsVal (tl (numS (n : Int))) : Nat) : Int) = _
    rw [ht, a1]
  have hb : wholeB (numS (n : Int)) = true := by
    rw [wholeB_iff, ht]
    refine ⟨⟨?_, Nat.le_trans (numS_4 n (by omega)) (by omega)⟩, a2, fun g => ?_⟩
    · rw [TL.len_tl, ht]
      cases q : numL n with
      | nil => exact absurd q a3
      | cons x y => exact Nat.succ_le_succ (Nat.zero_le _)
    · rcases Nat.eq_zero_or_pos n with rfl | z
      · rw [TL.numL_lt (by omega)]
      · exact absurd g (a4 z)
  unfold whN
  rw [hv, if_pos ⟨hb, h1⟩]
theorem num_whN {x : Str} {hi v : Int} (h : whN x hi = some v) : numS v = x := by
  unfold whN at h
  split at h
  · rename_i q
    cases h
    obtain ⟨⟨l1, _⟩, d, z⟩ := (wholeB_iff x).mp q.1
    apply TL.ext_tl
    show tl (numS ((NumText.digitsVal x.cps.toList : Nat) : Int)) = tl x
    rw [tl_numS]
    have hne : tl x ≠ [] := fun e => by
      rw [TL.len_tl, e] at l1
      exact absurd l1 (by decide)
    refine val_num _ (tl x) rfl d hne ?_
    by_cases g : (tl x).getD 0 0 = 48
    · exact .inl (z g)
    · exact .inr g
  · cases h
/-! ### words -/
theorem tl_sp : tl (" " : Str) = [32] := by decide +kernel
theorem tl_nl : tl ("\n" : Str) = [10] := by decide +kernel
theorem tl_sp3 : tl ("   " : Str) = [32, 32, 32] := by decide +kernel
theorem ok_sp : ((" " : Str)).cps.all (· < 256) = true := by decide +kernel
theorem ok_nl : (("\n" : Str)).cps.all (· < 256) = true := by decide +kernel
def wordsL (l : List Nat) : List (List Nat) := (spl [32] 0 [] l).filter fun p => !p.isEmpty
theorem tl_nil (x : Str) : tl x = [] ↔ x = Str.empty := ⟨fun h => TL.ext_tl h, fun h => by rw [h]; rfl⟩
theorem words_tl (x : Str) : (wordsOf x).map tl = wordsL (tl x) := by
  unfold wordsOf wordsL
  have e := TL.split_spl x " " (by rw [tl_sp]; simp) (TL.kind_ok ok_sp)
  rw [tl_sp] at e
  rw [← e, List.filter_map]
  congr 1
  apply List.filter_congr
  intro w _
  show decide (w ≠ Str.empty) = !(tl w).isEmpty
  by_cases hw : w = Str.empty
  · subst hw
    have e0 : tl Str.empty = [] := rfl
    rw [e0]
    simp
  · have e0 : tl w ≠ [] := fun z => hw ((tl_nil w).mp z)
    cases q : tl w with
    | nil => exact absurd q e0
    | cons a b => simp [hw]
theorem wl_sp (r : List Nat) : wordsL (32 :: r) = wordsL r := by
  unfold wordsL
  have e := TL.spl_part1 (s := 32) (S := []) (p := []) (rest := r) (acc := []) (by simp)
  have e2 : spl [32] 0 [] (32 :: r) = [] :: spl [32] 0 [] r := e
  rw [e2]
  rfl
theorem wl_app {p : List Nat} (h : 32 ∉ p) (hn : p ≠ []) (r : List Nat) : wordsL (p ++ 32 :: r) = p :: wordsL r := by
  unfold wordsL
  have e := TL.spl_part1 (s := 32) (S := []) (p := p) (rest := r) (acc := []) h
  have e2 : spl [32] 0 [] (p ++ 32 :: r) = p :: spl [32] 0 [] r := e
  rw [e2, List.filter_cons_of_pos]
  cases p with
  | nil => exact absurd rfl hn
  | cons a b => rfl
theorem wl_nil : wordsL [] = [] := rfl
theorem wl_loose : ∀ {ps : List (List Nat)}, (∀ p ∈ ps, 32 ∉ p ∧ p ≠ []) → wordsL (joinL [32, 32, 32] ps ++ [32]) = ps
  | [], _ => by
    show wordsL (32 :: []) = []
    rw [wl_sp]
    rfl
  | [p], h => by
    have hp := h p (List.mem_cons_self ..)
    show wordsL (p ++ 32 :: []) = [p]
    rw [wl_app hp.1 hp.2, wl_nil]
  | p :: q :: r, h => by
    have hp := h p (List.mem_cons_self ..)
    have e : joinL [32, 32, 32] (p :: q :: r) ++ [32] = p ++ 32 :: (32 :: (32 :: (joinL [32, 32, 32] (q :: r) ++ [32]))) := by
      show (p ++ ([32, 32, 32] ++ joinL [32, 32, 32] (q :: r))) ++ [32] = _
      simp
    rw [e, wl_app hp.1 hp.2, wl_sp, wl_sp, wl_loose fun z hz => h z (List.mem_cons_of_mem _ hz)]
theorem wl_pad : ∀ (n : Nat) (l : List Nat), wordsL (List.replicate n 32 ++ l) = wordsL l
  | 0, l => by simp
  | n + 1, l => by
    rw [List.replicate_succ, List.cons_append, wl_sp, wl_pad n l]
theorem tl_spN {c : Nat} (h : c ≤ 2) : tl (spN c) = List.replicate c 32 := by
  match c, h with
  | 0, _ => rfl
  | 1, _ => decide +kernel
  | 2, _ => decide +kernel
/-! ### tables of words -/
structure GW (x : Str) : Prop where
  ne : tl x ≠ []
  s : 32 ∉ tl x
  n : 10 ∉ tl x
structure GL (ws : List Str) : Prop where
  ne : ws ≠ []
  w : ∀ x ∈ ws, GW x
structure GT (WT : List (List Str)) : Prop where
  ne : WT ≠ []
  l : ∀ ws ∈ WT, GL ws
def lineW (ws : List Str) : Str := Txt.join " " ws
def textW (WT : List (List Str)) : Str := Txt.join "\n" (WT.map lineW)
theorem mem_joinL {S : List Nat} {c : Nat} : ∀ {ps : List (List Nat)}, c ∈ joinL S ps → c ∈ S ∨ ∃ p ∈ ps, c ∈ p
  | [], h => absurd (show c ∈ ([] : List Nat) from h) (by simp)
  | [p], h => .inr ⟨p, List.mem_cons_self .., h⟩
  | p :: q :: r, h => by
    have h : c ∈ p ++ (S ++ joinL S (q :: r)) := h
    rcases List.mem_append.mp h with h | h
    · exact .inr ⟨p, List.mem_cons_self .., h⟩
    · rcases List.mem_append.mp h with h | h
      · exact .inl h
      · rcases mem_joinL h with h | ⟨z, hz, h⟩
        · exact .inl h
        · exact .inr ⟨z, List.mem_cons_of_mem _ hz, h⟩
theorem tl_joinT (y : Str) (ps : List Str) : tl (Txt.join y ps) = joinL (tl y) (ps.map tl) := by
  rw [TL.join_eq, TL.tl_join]
theorem line_split {ws : List Str} (h : GL ws) : Txt.split (lineW ws) " " = ws := TL.split_join tl_sp ok_sp h.ne fun p hp => (h.w p hp).s
theorem line_free {ws : List Str} (h : GL ws) : 10 ∉ tl (lineW ws) := fun hc => by
  unfold lineW at hc
  rw [tl_joinT, tl_sp] at hc
  rcases mem_joinL hc with hc | ⟨p, hp, hc⟩
  · simp at hc
  · obtain ⟨w, hw, rfl⟩ := List.mem_map.mp hp
    exact (h.w w hw).n hc
theorem line_words {ws : List Str} (h : GL ws) : wordsOf (lineW ws) = ws := by
  unfold wordsOf
  rw [line_split h]
  exact List.filter_eq_self.mpr fun w hw => decide_eq_true fun e => (h.w w hw).ne ((tl_nil w).mpr e)
theorem text_split {WT : List (List Str)} (h : GT WT) : Txt.split (textW WT) "\n" = WT.map lineW := TL.split_join tl_nl ok_nl (by simpa using h.ne) fun p hp => by
  obtain ⟨ws, hw, rfl⟩ := List.mem_map.mp hp
  exact line_free (h.l ws hw)
theorem loose_words {ws : List Str} (h : GL ws) {c : Nat} (hc : c ≤ 2) : wordsOf (spN c ++ Txt.join "   " (Txt.split (lineW ws) " ") ++ " ") = ws ∧ 10 ∉ tl (spN c ++ Txt.join "   " (Txt.split (lineW ws) " ") ++ " ") := by
  have e : tl (spN c ++ Txt.join "   " (Txt.split (lineW ws) " ") ++ " ") = List.replicate c 32 ++ (joinL [32, 32, 32] (ws.map tl) ++ [32]) := by
    rw [line_split h, TL.tl_append, TL.tl_append, tl_spN hc, tl_joinT, tl_sp3, tl_sp, List.append_assoc]
  refine ⟨TL.map_tl_inj ?_, fun hm => ?_⟩
  · rw [words_tl, e, wl_pad, wl_loose fun p hp => ?_]
    obtain ⟨w, hw, rfl⟩ := List.mem_map.mp hp
    exact ⟨(h.w w hw).s, (h.w w hw).ne⟩
  · rw [e] at hm
    rcases List.mem_append.mp hm with hm | hm
    · have := List.eq_of_mem_replicate hm
      omega
    · rcases List.mem_append.mp hm with hm | hm
      · rcases mem_joinL hm with hm | ⟨p, hp, hm⟩
        · simp at hm
        · obtain ⟨w, hw, rfl⟩ := List.mem_map.mp hp
          exact (h.w w hw).n hm
      · simp at hm
theorem void_words {a : Nat} (ha : a ≤ 2) : wordsOf (spN a) = [] ∧ 10 ∉ tl (spN a) := by
  refine ⟨?_, fun hm => ?_⟩
  · have e : (wordsOf (spN a)).map tl = [] := by
      rw [words_tl, tl_spN ha]
      have := wl_pad a []
      rw [List.append_nil] at this
      rw [this, wl_nil]
    exact List.map_eq_nil_iff.mp e
  · rw [tl_spN ha] at hm
    have := List.eq_of_mem_replicate hm
    omega
theorem loose_ok : ∀ {ls fs : List Str}, Loose ls fs → ∀ {WT : List (List Str)}, ls = WT.map lineW → (∀ ws ∈ WT, GL ws) → (fs.map wordsOf).filter (fun x => !x.isEmpty) = WT ∧ ∀ f ∈ fs, 10 ∉ tl f := by
  intro ls fs h
  induction h with
  | nil =>
    intro WT e _
    have e2 : WT = [] := List.map_eq_nil_iff.mp e.symm
    rw [e2]
    exact ⟨rfl, fun f hf => by cases hf⟩
  | @step ls fs l n a c h hn ha hc ih =>
    intro WT e hg
    have hne : WT ≠ [] := fun z => by
      rw [z] at e
      simp at e
    obtain ⟨WT', ws, rfl⟩ : ∃ l' d, WT = l' ++ [d] := ⟨WT.dropLast, WT.getLast hne, (List.dropLast_concat_getLast hne).symm⟩
    rw [List.map_append] at e
    obtain ⟨e1, e2⟩ := List.append_inj' e rfl
    have e3 : l = lineW ws := by simpa using e2
    obtain ⟨i1, i2⟩ := ih e1 fun z hz => hg z (List.mem_append_left _ hz)
    have hw := hg ws (by simp)
    obtain ⟨k1, k2⟩ := loose_words hw (c := c) (by omega)
    obtain ⟨v1, v2⟩ := void_words ha
    rw [e3]
    refine ⟨?_, fun f hf => ?_⟩
    · rw [List.map_append, List.map_append, List.filter_append, List.filter_append, i1, List.map_replicate, v1]
      have z1 : (List.replicate n ([] : List Str)).filter (fun x => !x.isEmpty) = [] := List.filter_eq_nil_iff.mpr fun x hx => by
        rw [List.eq_of_mem_replicate hx]
        simp
      rw [z1, List.append_nil]
      congr 1
      show ([wordsOf _]).filter _ = [ws]
      rw [k1]
      cases ws with
      | nil => exact absurd rfl hw.ne
      | cons x y => rfl
    · rcases List.mem_append.mp hf with hf | hf
      · rcases List.mem_append.mp hf with hf | hf
        · exact i2 f hf
        · rw [List.eq_of_mem_replicate hf]
          exact v2
      · rw [List.mem_singleton.mp hf]
        exact k2
theorem lines_fst {x : Str} {fs : List Str} (h : Txt.split x "\n" = fs) : (linesOf x).map (·.1) = (fs.map wordsOf).filter (fun x => !x.isEmpty) := by
  unfold linesOf
  rw [h, List.map_map]
  have q := range_filter_map fs (fun l => !(wordsOf l).isEmpty) wordsOf Str.empty
  rw [List.filter_map]
  exact q
theorem loose_lines {WT : List (List Str)} (h : GT WT) {fs : List Str} (hl : Loose (Txt.split (textW WT) "\n") fs) : (linesOf (Txt.join "\n" fs)).map (·.1) = WT := by
  rw [text_split h] at hl
  obtain ⟨h1, h2⟩ := loose_ok hl rfl h.l
  have hne : fs ≠ [] := fun z => by
    rw [z] at h1
    exact h.ne h1.symm
  rw [lines_fst (TL.split_join tl_nl ok_nl hne h2), h1]
theorem text_lines {WT : List (List Str)} (h : GT WT) : linesOf (textW WT) = (List.range WT.length).map fun i => (WT.getD i [], i + 1) := by
  have hw : ∀ i, i < WT.length → wordsOf ((WT.map lineW).getD i Str.empty) = WT.getD i [] ∧ WT.getD i [] ≠ [] := fun i hi => by
    have hm := h.l _ (getD_mem (d := []) hi)
    have e : (WT.map lineW).getD i Str.empty = lineW (WT.getD i []) := by
      rw [List.getD_eq_getElem?_getD, List.getElem?_map, List.getElem?_eq_getElem hi, List.getD_eq_getElem?_getD, List.getElem?_eq_getElem hi]
      rfl
    rw [e]
    exact ⟨line_words hm, hm.ne⟩
  unfold linesOf
  rw [text_split h, List.length_map]
  have hf : (List.range WT.length).filter (fun i => !(wordsOf ((WT.map lineW).getD i Str.empty)).isEmpty) = List.range WT.length := List.filter_eq_self.mpr fun i hi => by
    obtain ⟨h1, h2⟩ := hw i (List.mem_range.mp hi)
    rw [h1]
    cases q : WT.getD i [] with
    | nil => exact absurd q h2
    | cons a b => rfl
  rw [hf]
  apply List.map_congr_left
  intro i hi
  rw [(hw i (List.mem_range.mp hi)).1]
theorem GT.set {WT : List (List Str)} (h : GT WT) {a p : Nat} {x : Str} (ha : a < WT.length) (hx : GW x) : GT (WT.set a ((WT.getD a []).set p x)) := by
  have hm := h.l _ (getD_mem (d := []) ha)
  refine ⟨fun z => h.ne ?_, fun ws hw => ?_⟩
  · have := congrArg List.length z
    rw [List.length_set] at this
    exact List.eq_nil_of_length_eq_zero this
  · rcases mem_set hw with hw | rfl
    · exact h.l ws hw
    · refine ⟨fun z => hm.ne ?_, fun w hw => ?_⟩
      · have := congrArg List.length z
        rw [List.length_set] at this
        exact List.eq_nil_of_length_eq_zero this
      · rcases mem_set hw with hw | rfl
        · exact hm.w w hw
        · exact hx
theorem bent_text {WT : List (List Str)} (h : GT WT) {a p : Nat} {x : Str} (ha : a < WT.length) : bentT (Txt.split (textW WT) "\n") a p x = textW (WT.set a ((WT.getD a []).set p x)) := by
  have hm := h.l _ (getD_mem (d := []) ha)
  rw [text_split h]
  unfold bentT textW
  have e : (WT.map lineW).getD a Str.empty = lineW (WT.getD a []) := by
    rw [List.getD_eq_getElem?_getD, List.getElem?_map, List.getElem?_eq_getElem ha, List.getD_eq_getElem?_getD, List.getElem?_eq_getElem ha]
    rfl
  rw [e, line_split hm, List.map_set]
  congr 1
  have key := List.set_eq_take_append_cons_drop (l := WT.map lineW) (i := a) (a := lineW ((WT.getD a []).set p x))
  rw [if_pos (by rw [List.length_map]; exact ha)] at key
  rw [key, List.append_assoc]
  rfl
end K11
/-! K11MB: a machine's text is read back. -/
namespace K11
open PySem PySem.Spec PyProof.Rows
open TL (tl spl joinL numL)
def rowW (w : Str) (r : List Int) : List Str := w :: r.map numS
def wordsM (m : Mac) : List (List Str) := ["prime", numS m.p] :: (parts m).flatMap fun x => x.2.map (rowW x.1)
theorem gw_num {v : Int} (h : 0 ≤ v) : GW (numS v) := by
  obtain ⟨n, rfl⟩ := Int.eq_ofNat_of_zero_le h
  obtain ⟨_, a2, a3, _⟩ := num_all n
  refine ⟨by rw [tl_numS]; exact a3, fun hc => ?_, fun hc => ?_⟩
  · rw [tl_numS] at hc
    have := a2 _ hc
    omega
  · rw [tl_numS] at hc
    have := a2 _ hc
    omega
theorem gw_dec {x : Str} (h : (!(tl x).isEmpty && !decide (32 ∈ tl x) && !decide (10 ∈ tl x)) = true) : GW x := by
  simp only [Bool.and_eq_true, Bool.not_eq_true', decide_eq_false_iff_not] at h
  exact ⟨fun e => (by rw [e] at h; cases h.1.1), h.1.2, h.2⟩
theorem line_two (a b : Str) : lineW [a, b] = a ++ " " ++ b := by
  apply TL.ext_tl
  unfold lineW
  rw [tl_joinT, TL.tl_append, TL.tl_append, List.append_assoc]
  rfl
theorem line_row {w : Str} {r : List Int} (h : r ≠ []) : lineW (rowW w r) = rowTxt w r := by
  apply TL.ext_tl
  unfold lineW rowW rowTxt
  rw [tl_joinT, TL.tl_append, TL.tl_append, tl_joinT, List.append_assoc]
  cases r with
  | nil => exact absurd rfl h
  | cons x y => rfl
theorem prime_sp : ("prime " : Str) = "prime" ++ " " := by decide +kernel
theorem mac_text {m : Mac} (h : m.Ok) : macText m = textW (wordsM m) := by
  unfold macText textW macRows wordsM
  rw [List.map_cons, line_two, ← prime_sp]
  congr 2
  rw [List.map_flatMap, List.flatMap_def, List.flatMap_def]
  congr 1
  show (parts m).map _ = _
  apply List.map_congr_left
  intro x hx
  rw [List.map_map]
  apply List.map_congr_left
  intro r hr
  have hl := ((h.tab x hx).2.2 r hr).len
  have hn := h.n1
  exact (line_row (fun e => by rw [e] at hl; exact absurd hl (by simp; omega))).symm
theorem parts_w {m : Mac} : ∀ x ∈ parts m, GW x.1 := by
  intro x hx
  simp only [parts, List.mem_cons, List.not_mem_nil, or_false] at hx
  rcases hx with rfl | rfl | rfl
  · exact gw_dec (x := "stir") (by decide +kernel)
  · exact gw_dec (x := "write") (by decide +kernel)
  · exact gw_dec (x := "see") (by decide +kernel)
theorem gt_mac {m : Mac} (h : m.Ok) : GT (wordsM m) := by
  have hp := h.pr.pos
  refine ⟨by unfold wordsM; simp, fun ws hw => ?_⟩
  unfold wordsM at hw
  rcases List.mem_cons.mp hw with rfl | hw
  · refine ⟨by simp, fun x hx => ?_⟩
    simp only [List.mem_cons, List.not_mem_nil, or_false] at hx
    rcases hx with rfl | rfl
    · exact gw_dec (by decide +kernel)
    · exact gw_num (by omega)
  · obtain ⟨x, hx, hw⟩ := List.mem_flatMap.mp hw
    obtain ⟨r, hr, rfl⟩ := List.mem_map.mp hw
    refine ⟨by unfold rowW; simp, fun y hy => ?_⟩
    unfold rowW at hy
    rcases List.mem_cons.mp hy with rfl | hy
    · exact parts_w x hx
    · obtain ⟨v, hv, rfl⟩ := List.mem_map.mp hy
      exact gw_num ((((h.tab x hx).2.2 r hr).rng v hv).1)
/-! ### rows -/
theorem getD_cons_map {w : Str} {r : List Int} {j : Nat} (h : j < r.length) : (rowW w r).getD (j + 1) Str.empty = numS (r.getD j 0) := by
  unfold rowW
  show (r.map numS).getD j Str.empty = _
  rw [List.getD_eq_getElem?_getD, List.getElem?_map, List.getElem?_eq_getElem h, List.getD_eq_getElem?_getD, List.getElem?_eq_getElem h]
  rfl
theorem rowW_len {w : Str} {r : List Int} : (rowW w r).length = r.length + 1 := by
  unfold rowW
  rw [List.length_cons, List.length_map]
theorem nums_fwd {w : Str} {p : Int} {m : Nat} {r : List Int} (hp : p ≤ 7) (h : RowOk p m r) : numsR (rowW w r) m (p - 1) = .ok r := by
  refine numsR_ok h.len fun j hj => ?_
  have hj2 : j < r.length := by rw [h.len]; exact hj
  have hr := h.rng _ (getD_mem (d := 0) hj2)
  unfold numP
  rw [if_pos (by rw [rowW_len]; omega), getD_cons_map hj2]
  exact whN_num hr.1 (by omega) (by omega)
theorem rows_fwd {w : Str} {p : Int} {m most : Nat} (hp : p ≤ 7) : ∀ (rs : List (List Int)) (a b : List Ln) (c : Nat), a.map (·.1) = rs.map (rowW w) → (∀ r ∈ rs, RowOk p m r) → c + rs.length ≤ most → (b = [] ∨ (b.getD 0 ([], 0)).1.getD 0 Str.empty ≠ w) →
    rowsR w p m most c (a ++ b) = .ok (rs, b)
  | [], a, b, c, h1, _, _, h4 => by
    have ha : a = [] := List.map_eq_nil_iff.mp h1
    rw [ha]
    exact rowsR_no h4
  | r :: rs, [], b, c, h1, _, _, _ => by cases h1
  | r :: rs, x :: a, b, c, h1, h2, h3, h4 => by
    rw [List.map_cons, List.map_cons] at h1
    obtain ⟨e1, e2⟩ := List.cons.inj h1
    have hr := h2 r (List.mem_cons_self ..)
    rw [List.length_cons] at h3
    show rowsR w p m most c (x :: (a ++ b)) = _
    rw [rowsR_yes (by rw [e1]; rfl), if_neg (by omega), e1, nums_fwd hp hr]
    dsimp only
    rw [if_neg (by rw [rowW_len, hr.len]; omega), rows_fwd hp rs a b (c + 1) e2 (fun z hz => h2 z (List.mem_cons_of_mem _ hz)) (by omega) h4]
theorem nums_back {ws : List Str} {p : Int} {m : Nat} {ns : List Int} (hm : 1 ≤ m) (h : numsR ws m (p - 1) = .ok ns) (hl : ws.length ≤ m + 1) : ws = rowW (ws.getD 0 Str.empty) ns := by
  have hrow := numsR_row h
  unfold numsR at h
  split at h
  · cases h
  rename_i hf
  rw [List.find?_eq_none] at hf
  have hs : ∀ i, i < m → ∃ v, numP ws (i + 1) (p - 1) = some v := fun i hi => by
    have k := hf i (List.mem_range.mpr hi)
    cases q : numP ws (i + 1) (p - 1) with
    | none =>
      rw [q] at k
      exact absurd rfl k
    | some v => exact ⟨v, rfl⟩
  have hlen : ws.length = m + 1 := by
    obtain ⟨v, hv⟩ := hs (m - 1) (by omega)
    unfold numP at hv
    split at hv
    · omega
    · cases hv
  cases h
  apply List.ext_getElem?
  intro i
  cases i with
  | zero =>
    show ws[0]? = some (ws.getD 0 Str.empty)
    rw [List.getD_eq_getElem?_getD, List.getElem?_eq_getElem (by omega)]
    rfl
  | succ i =>
    show ws[i + 1]? = (((List.range m).map fun i => (numP ws (i + 1) (p - 1)).getD 0).map numS)[i]?
    rw [List.getElem?_map, List.getElem?_map]
    by_cases hi : i < m
    · rw [List.getElem?_range hi]
      obtain ⟨v, hv⟩ := hs i hi
      show ws[i + 1]? = some (numS ((numP ws (i + 1) (p - 1)).getD 0))
      rw [hv]
      unfold numP at hv
      have h1 : i + 1 < ws.length := by omega
      rw [if_pos h1] at hv
      have e := num_whN hv
      rw [List.getD_eq_getElem?_getD, List.getElem?_eq_getElem h1] at e
      rw [List.getElem?_eq_getElem h1]
      exact congrArg some e.symm
    · rw [List.getElem?_eq_none (by omega), List.getElem?_eq_none (by rw [List.length_range]; omega)]
      rfl
theorem rows_back {w : Str} {p : Int} {m most : Nat} (hm : 1 ≤ m) : ∀ {ls : List Ln} {c : Nat} {rs : List (List Int)} {r' : List Ln}, rowsR w p m most c ls = .ok (rs, r') → ls.map (·.1) = rs.map (rowW w) ++ r'.map (·.1)
  | [], c, rs, r', h => by
    cases h
    rfl
  | x :: r, c, rs, r', h => by
    by_cases hw : x.1.getD 0 Str.empty = w
    · rw [rowsR_yes hw] at h
      split at h
      · cases h
      split at h
      · cases h
      rename_i ns hns
      split at h
      · cases h
      rename_i hlen
      split at h
      · cases h
      rename_i rs2 r2 h2
      cases h
      have e := nums_back hm hns (by omega)
      rw [hw] at e
      rw [List.map_cons, List.map_cons, rows_back hm h2, ← e]
      rfl
    · rw [rowsR_no (ls := x :: r) (.inr hw)] at h
      cases h
      rfl
/-! ### machines -/
theorem machL_fwd {m : Mac} (h : m.Ok) {en : Nat} {ls : List Ln} (hl : ls.map (·.1) = wordsM m) : machL en ls = .ok m := by
  obtain ⟨p, n, st, wr, si⟩ := m
  have hp := h.pr.pos
  have hn1 := h.n1
  have hn4 := h.n4
  have hst := h.st
  have hwr := h.wr
  have hsi := h.si
  dsimp only at hp hn1 hn4 hst hwr hsi
  have hW : wordsM ⟨p, n, st, wr, si⟩ = ([("prime" : Str), numS p] : List Str) :: (st.map (rowW "stir") ++ (wr.map (rowW "write") ++ (si.map (rowW "see") ++ []))) := rfl
  rw [hW, List.append_nil] at hl
  cases ls with
  | nil => cases hl
  | cons x r =>
    rw [List.map_cons] at hl
    obtain ⟨e0, e1⟩ := List.cons.inj hl
    obtain ⟨a, r1, rfl, ea, e2⟩ := List.map_eq_append_iff.mp e1
    obtain ⟨b, c, rfl, eb, ec⟩ := List.map_eq_append_iff.mp e2
    have hd : ∀ {w : Str} {rs : List (List Int)} {ls : List Ln}, 1 ≤ rs.length → ls.map (·.1) = rs.map (rowW w) → ∃ y t, ls = y :: t ∧ y.1 = rowW w (rs.getD 0 []) := fun {w rs ls} hrs e => by
      cases rs with
      | nil => exact absurd hrs (by decide)
      | cons q z =>
        cases ls with
        | nil => cases e
        | cons y t =>
          rw [List.map_cons, List.map_cons] at e
          exact ⟨y, t, rfl, (List.cons.inj e).1⟩
    obtain ⟨ya, ta, rfl, ha⟩ := hd (by rw [hst.len]; exact hn1) ea
    obtain ⟨yb, tb, rfl, hb⟩ := hd hwr.lo eb
    obtain ⟨yc, tc, rfl, hc⟩ := hd hsi.lo ec
    have hnum : numP x.1 1 7 = some p := by
      rw [e0]
      exact whN_num (by omega) hp.2 (by omega)
    have hpb : prB p = true := by
      rcases h.pr with q | q | q | q
      all_goals
        have q : p = _ := q
        subst q
        decide
    have hmany : max 1 (manyR ((ya :: ta) ++ ((yb :: tb) ++ (yc :: tc)))) = n := by
      have hr0 := (hst.row _ (getD_mem (d := []) (i := 0) (by rw [hst.len]; exact hn1))).len
      show max 1 (min 4 (ya.1.length - 1)) = n
      rw [ha, rowW_len, hr0]
      omega
    have h0 : x.1.getD 0 Str.empty = ("prime" : Str) := by
      rw [e0]
      rfl
    have h2 : ¬ 2 < x.1.length := by
      rw [e0]
      show ¬ 2 < 2
      omega
    rw [machL_cons, if_pos h0, hnum]
    dsimp only
    rw [if_pos hpb, if_neg h2, hmany]
    have l1 : rowsR "stir" p n n 0 ((ya :: ta) ++ ((yb :: tb) ++ (yc :: tc))) = .ok (st, (yb :: tb) ++ (yc :: tc)) := rows_fwd hp.2 st _ _ 0 ea hst.row (by rw [hst.len]; omega) (.inr (by
      show yb.1.getD 0 Str.empty ≠ _
      rw [hb]
      show ("write" : Str) ≠ "stir"
      decide +kernel))
    have l2 : rowsR "write" p n 4 0 ((yb :: tb) ++ (yc :: tc)) = .ok (wr, yc :: tc) := rows_fwd hp.2 wr _ _ 0 eb hwr.row (by have := hwr.hi; omega) (.inr (by
      show yc.1.getD 0 Str.empty ≠ _
      rw [hc]
      show ("see" : Str) ≠ "write"
      decide +kernel))
    have l3 : rowsR "see" p n 4 0 (yc :: tc) = .ok (si, []) := by
      have := rows_fwd (w := "see") (most := 4) hp.2 si (yc :: tc) [] 0 ec hsi.row (by have := hsi.hi; omega) (.inl rfl)
      rw [List.append_nil] at this
      exact this
    have hun : undone p st = true := by
      unfold undone
      rw [Bool.and_eq_true, decide_eq_true_iff, decide_eq_true_iff]
      exact ⟨by rw [hst.len, (hst.row _ (getD_mem (d := []) (i := 0) (by rw [hst.len]; exact hn1))).len], by rw [hst.full, hst.len]⟩
    have emp : ∀ {rs : List (List Int)}, 1 ≤ rs.length → rs.isEmpty = false := fun {rs} h => by
      cases rs with
      | nil => exact absurd h (by decide)
      | cons _ _ => rfl
    unfold wlR
    rw [loopR_cons]
    dsimp only
    rw [l1]
    dsimp only
    rw [emp (by rw [hst.len]; exact hn1), if_neg Bool.false_ne_true, if_neg (fun z => by rw [hun] at z; exact Bool.noConfusion z.2), loopR_cons]
    dsimp only
    rw [l2]
    dsimp only
    rw [emp hwr.lo, if_neg Bool.false_ne_true, if_neg (fun z => absurd z.1 (by decide +kernel)), loopR_cons]
    dsimp only
    rw [l3]
    dsimp only
    rw [emp hsi.lo, if_neg Bool.false_ne_true, if_neg (fun z => absurd z.1 (by decide +kernel))]
    rfl
theorem machL_back {en : Nat} {ls : List Ln} {m : Mac} (lok : LnsOk ls) (h : machL en ls = .ok m) : m.Ok ∧ wordsM m = ls.map (·.1) := by
  cases ls with
  | nil => cases h
  | cons x r =>
    rw [machL_cons] at h
    split at h
    · rename_i hpr
      split at h
      · cases h
      rename_i p hnum
      split at h
      · rename_i hpb
        split at h
        · cases h
        rename_i hlen
        have hx : x.1 = ([("prime" : Str), numS p] : List Str) := by
          unfold numP at hnum
          split at hnum
          · rename_i h1
            have e := num_whN hnum
            match hq : x.1, h1, hlen, e, hpr with
            | [a, b], _, _, e, hpr =>
              have e1 : numS p = b := e
              have e2 : a = "prime" := hpr
              rw [e1, e2]
            | [], h1, _, _, _ => exact absurd h1 (by simp)
            | [_], h1, _, _, _ => exact absurd h1 (by simp)
            | _ :: _ :: _ :: _, _, hlen, _, _ => exact absurd (by simp) hlen
          · cases hnum
        generalize hmm : max 1 (manyR r) = n at h
        have hn : 1 ≤ n ∧ n ≤ 4 := by
          have : manyR r ≤ 4 := by
            unfold manyR
            split <;> omega
          omega
        have hprp := prB_pr hpb
        have rok := lok.tail
        unfold wlR at h
        rw [loopR_cons] at h
        dsimp only at h
        cases q1 : rowsR "stir" p n n 0 r with
        | error e =>
          rw [q1] at h
          cases h
        | ok z1 =>
        obtain ⟨st, r1⟩ := z1
        rw [q1] at h
        dsimp only at h
        by_cases hst1 : st.isEmpty = true
        · rw [if_pos hst1] at h
          exact nomatch (show (Except.error _ : Except (Nat × Nat) Mac) = .ok m from h)
        rw [if_neg hst1] at h
        by_cases hun : ("stir" : Str) = ("stir" : Str) ∧ undone p st = false
        · rw [if_pos hun] at h
          exact nomatch (show (Except.error _ : Except (Nat × Nat) Mac) = .ok m from h)
        rw [if_neg hun] at h
        rw [loopR_cons] at h
        dsimp only at h
        cases q2 : rowsR "write" p n 4 0 r1 with
        | error e =>
          rw [q2] at h
          cases h
        | ok z2 =>
        obtain ⟨wr, r2⟩ := z2
        rw [q2] at h
        dsimp only at h
        by_cases hwr1 : wr.isEmpty = true
        · rw [if_pos hwr1] at h
          exact nomatch (show (Except.error _ : Except (Nat × Nat) Mac) = .ok m from h)
        rw [if_neg hwr1] at h
        rw [if_neg (fun z => absurd z.1 (by decide +kernel)), loopR_cons] at h
        dsimp only at h
        cases q3 : rowsR "see" p n 4 0 r2 with
        | error e =>
          rw [q3] at h
          cases h
        | ok z3 =>
        obtain ⟨si, r3⟩ := z3
        rw [q3] at h
        dsimp only at h
        by_cases hsi1 : si.isEmpty = true
        · rw [if_pos hsi1] at h
          exact nomatch (show (Except.error _ : Except (Nat × Nat) Mac) = .ok m from h)
        rw [if_neg hsi1] at h
        rw [if_neg (fun z => absurd z.1 (by decide +kernel))] at h
        have h : finR p n (.ok ([st, wr, si], r3)) = .ok m := h
        cases r3 with
        | cons y t => cases h
        | nil =>
          have h : (Except.ok ⟨p, n, st, wr, si⟩ : Except (Nat × Nat) Mac) = .ok m := h
          cases h
          obtain ⟨k1, l1, w1⟩ := rowsR_ok rok (Nat.zero_le _) q1
          obtain ⟨k2, l2, w2⟩ := rowsR_ok k1 (Nat.zero_le _) q2
          obtain ⟨_, l3, w3⟩ := rowsR_ok k2 (Nat.zero_le _) q3
          have pos : ∀ {rs : List (List Int)}, ¬ rs.isEmpty = true → 1 ≤ rs.length := fun {rs} h => by
            cases rs with
            | nil => exact absurd rfl h
            | cons _ _ => exact Nat.succ_le_succ (Nat.zero_le _)
          have hun2 : undone p st = true := by
            cases q : undone p st with
            | true => rfl
            | false => exact absurd ⟨rfl, q⟩ hun
          unfold undone at hun2
          rw [Bool.and_eq_true, decide_eq_true_iff, decide_eq_true_iff] at hun2
          have hs0 := (w1 _ (getD_mem (d := []) (i := 0) (pos hst1))).len
          refine ⟨⟨hprp, hn.1, hn.2, ⟨by show st.length = n; omega, w1, by show (redR p st).length = n; omega⟩, ⟨pos hwr1, by show wr.length ≤ 4; omega, w2⟩, ⟨pos hsi1, by show si.length ≤ 4; omega, w3⟩⟩, ?_⟩
          rw [List.map_cons, hx, rows_back hn.1 q1, rows_back hn.1 q2, rows_back hn.1 q3]
          rfl
      · cases h
    · cases h
/-! ### the law's questions -/
theorem m_read {m : Mac} (h : m.Ok) {fs : List Str} (hl : Loose (Txt.split (macText m) "\n") fs) : machR (Txt.join "\n" fs) = .ok m := by
  rw [mac_text h] at hl
  exact machL_fwd h (loose_lines (gt_mac h) hl)
theorem range_fst (WT : List (List Str)) : ((List.range WT.length).map fun i => (WT.getD i [], i + 1)).map (·.1) = WT := by
  rw [List.map_map]
  apply List.ext_getElem
  · simp
  · intro i h1 h2
    simp only [List.getElem_map, List.getElem_range, Function.comp]
    rw [List.getD_eq_getElem?_getD, List.getElem?_eq_getElem h2]
    rfl
theorem m_bent {m m' : Mac} (h : m.Ok) {a p : Nat} {x : Str} (hx : GW x) (ha : a < (Txt.split (macText m) "\n").length) (hlen : (bentT (Txt.split (macText m) "\n") a p x).length ≤ 20000) (hr : machR (bentT (Txt.split (macText m) "\n") a p x) = .ok m') : m'.Ok ∧ macText m' = bentT (Txt.split (macText m) "\n") a p x := by
  have hg := gt_mac h
  rw [mac_text h] at ha hr hlen ⊢
  rw [text_split hg, List.length_map] at ha
  rw [bent_text hg ha] at hr hlen ⊢
  have hg2 := hg.set (p := p) ha hx
  obtain ⟨hl1, hl2⟩ := linesOf_ok hlen
  obtain ⟨k1, k2⟩ := machL_back ⟨hl1, hl2⟩ hr
  rw [text_lines hg2, range_fst] at k2
  exact ⟨k1, by rw [mac_text k1, k2]⟩
end K11
/-! K11MC: a program's text is read back; the fixed cases. -/
namespace K11
open PySem PySem.Spec PyProof.Rows
open TL (tl spl joinL numL)
theorem prog_text (l : List Ins) : progText l = textW (l.map insWs) := by
  unfold progText textW
  rw [List.map_map]
  rfl
theorem gw_o0 (o : O0) : GW o.nm := by cases o <;> exact gw_dec (by decide +kernel)
theorem gw_o1 (o : O1) : GW o.nm := by cases o <;> exact gw_dec (by decide +kernel)
theorem gl_ins {L : Nat} {i : Ins} (h : InsOk L i) : GL (insWs i) := by
  cases i with
  | z o => exact ⟨by unfold insWs; simp, fun x hx => by
      rw [List.mem_singleton.mp hx]
      exact gw_o0 o⟩
  | u o n => exact ⟨by unfold insWs; simp, fun x hx => by
      have hx : x ∈ [o.nm, numS n] := hx
      simp only [List.mem_cons, List.not_mem_nil, or_false] at hx
      rcases hx with rfl | rfl
      · exact gw_o1 o
      · exact gw_num h.1⟩
theorem gt_prog {l : List Ins} (h1 : 1 ≤ l.length) (h : ProgOk l) : GT (l.map insWs) := by
  refine ⟨fun z => ?_, fun ws hw => ?_⟩
  · rw [List.map_eq_nil_iff.mp z] at h1
    exact absurd h1 (by decide)
  · obtain ⟨i, hi, rfl⟩ := List.mem_map.mp hw
    exact gl_ins (h i hi)
theorem o0_of (o : O0) : o0Of o.nm = some o := by cases o <;> rfl
theorem o1_of (o : O1) : o0Of o.nm = none ∧ o1Of o.nm = some o := by cases o <;> exact ⟨rfl, rfl⟩
theorem ins_fwd {L : Nat} (hL : L ≤ 6000) {i : Ins} (h : InsOk L i) : insP (insWs i) = .ok i := by
  cases i with
  | z o =>
    have e : (insWs (.z o)).getD 0 Str.empty = o.nm := rfl
    unfold insP
    rw [e, o0_of]
    rfl
  | u o n =>
    have e : (insWs (.u o n)).getD 0 Str.empty = o.nm := rfl
    obtain ⟨a1, a2⟩ := o1_of o
    have hn : numP (insWs (.u o n)) 1 (o.top 6000) = some n := by
      show whN (numS n) (o.top 6000) = some n
      have h2 : o.top L ≤ o.top 6000 := by
        cases o <;> simp only [O1.top] <;> omega
      exact whN_num h.1 (Int.le_trans h.2 h2) (top_le o (Nat.le_refl _))
    unfold insP
    rw [e, a1]
    dsimp only
    rw [a2]
    dsimp only
    rw [hn]
    rfl
theorem ins_back {ws : List Str} {i : Ins} (h1 : 1 ≤ ws.length) (h : insP ws = .ok i) : insWs i = ws ∧ InsOk 6000 i := by
  unfold insP at h
  split at h
  · rename_i o ho
    split at h
    · cases h
    · rename_i hl
      cases h
      match ws, h1, hl, ho with
      | [a], _, _, ho =>
        have e := o0_nm ho
        exact ⟨congrArg (· :: []) e.symm, trivial⟩
      | [], h1, _, _ => exact absurd h1 (by decide)
      | _ :: _ :: _, _, hl, _ => exact absurd (by simp) hl
  · split at h
    · rename_i o ho
      split at h
      · rename_i n hn
        split at h
        · cases h
        · rename_i hl
          cases h
          have hr := numP_rng hn
          unfold numP at hn
          split at hn
          · rename_i h2
            have e := num_whN hn
            match ws, h2, hl, ho, e with
            | [a, b], _, _, ho, e =>
              have e1 := o1_nm ho
              have e2 : numS n = b := e
              refine ⟨?_, hr⟩
              show [o.nm, numS n] = [a, b]
              rw [e2]
              have e1 : a = o.nm := e1
              rw [e1]
            | [], h2, _, _, _ => exact absurd h2 (by simp)
            | [_], h2, _, _, _ => exact absurd h2 (by simp)
            | _ :: _ :: _ :: _, _, hl, _, _ => exact absurd (by simp) hl
          · cases hn
      · cases h
    · cases h
theorem all_fwd {L : Nat} (hL : L ≤ 6000) : ∀ {ls : List Ln} {is : List Ins}, ls.map (·.1) = is.map insWs → (∀ i ∈ is, InsOk L i) → insAll ls = .ok is
  | [], [], _, _ => rfl
  | [], _ :: _, h, _ => by cases h
  | _ :: _, [], h, _ => by cases h
  | x :: r, i :: is, h, hi => by
    rw [List.map_cons, List.map_cons] at h
    obtain ⟨e1, e2⟩ := List.cons.inj h
    unfold insAll
    rw [e1, ins_fwd hL (hi i (List.mem_cons_self ..))]
    dsimp only
    rw [all_fwd hL e2 fun z hz => hi z (List.mem_cons_of_mem _ hz)]
theorem all_back : ∀ {ls : List Ln} {is : List Ins}, (∀ x ∈ ls, 1 ≤ x.1.length) → insAll ls = .ok is → ls.map (·.1) = is.map insWs ∧ ∀ i ∈ is, InsOk 6000 i
  | [], is, _, h => by
    cases h
    exact ⟨rfl, fun i hi => by cases hi⟩
  | x :: r, is, hl, h => by
    unfold insAll at h
    cases q : insP x.1 with
    | error e =>
      rw [q] at h
      cases h
    | ok i =>
      rw [q] at h
      dsimp only at h
      cases q2 : insAll r with
      | error e =>
        rw [q2] at h
        cases h
      | ok l =>
        rw [q2] at h
        cases h
        obtain ⟨a1, a2⟩ := ins_back (hl x (List.mem_cons_self ..)) q
        obtain ⟨b1, b2⟩ := all_back (fun z hz => hl z (List.mem_cons_of_mem _ hz)) q2
        refine ⟨by rw [List.map_cons, List.map_cons, a1, b1], fun z hz => ?_⟩
        rcases List.mem_cons.mp hz with rfl | hz
        · exact a2
        · exact b2 z hz
theorem all_err : ∀ {ls : List Ln} {a b : Nat}, insAll ls = .error (a, b) → ∃ x ∈ ls, x.2 = a ∧ ∃ q, insP x.1 = .error q
  | [], a, b, h => by cases h
  | x :: r, a, b, h => by
    unfold insAll at h
    cases q : insP x.1 with
    | error e =>
      rw [q] at h
      cases h
      exact ⟨x, List.mem_cons_self .., rfl, _, q⟩
    | ok i =>
      rw [q] at h
      dsimp only at h
      cases q2 : insAll r with
      | error e =>
        rw [q2] at h
        cases h
        obtain ⟨y, hy, h1, h2⟩ := all_err q2
        exact ⟨y, List.mem_cons_of_mem _ hy, h1, h2⟩
      | ok l =>
        rw [q2] at h
        cases h
theorem ins_jmp {n L : Nat} {i : Ins} (hL : L ≤ n) (h : InsOk L i) : ¬ (i.jmp = true ∧ (n : Int) < i.n) := by
  rintro ⟨h1, h2⟩
  cases i with
  | z o => cases h1
  | u o v =>
    obtain ⟨_, h3⟩ := h
    have h1 : isJmp o = true := h1
    have h2 : (n : Int) < v := h2
    have h4 : o.top L = L := by cases o <;> first | rfl | cases h1
    rw [h4] at h3
    omega
theorem go_fwd {n L : Nat} (hL : L ≤ n) : ∀ {is : List Ins} {ls : List Ln}, (∀ i ∈ is, InsOk L i) → goBad n is ls = none
  | [], ls, _ => goBad_nil
  | _ :: _, [], _ => rfl
  | i :: is, x :: r, h => by
    rw [goBad_cons, if_neg (ins_jmp hL (h i (List.mem_cons_self ..)))]
    exact go_fwd hL fun z hz => h z (List.mem_cons_of_mem _ hz)
theorem go_back {n : Nat} : ∀ {is : List Ins} {ls : List Ln}, is.length = ls.length → goBad n is ls = none → ∀ i ∈ is, ¬ (i.jmp = true ∧ (n : Int) < i.n)
  | [], _, _, _ => fun i hi => by cases hi
  | _ :: _, [], h, _ => by cases h
  | i :: is, x :: r, hl, h => by
    rw [goBad_cons] at h
    split at h
    · cases h
    · rename_i hn
      intro z hz
      rcases List.mem_cons.mp hz with rfl | hz
      · exact hn
      · exact go_back (by simpa using hl) h z hz
theorem go_err {n a : Nat} : ∀ {is : List Ins} {ls : List Ln}, insAll ls = .ok is → goBad n is ls = some a → ∃ x ∈ ls, x.2 = a ∧ ∃ i, insP x.1 = .ok i ∧ i.jmp = true ∧ (n : Int) < i.n
  | [], ls, _, h => by rw [goBad_nil] at h; cases h
  | _ :: _, [], _, h => by cases h
  | i :: is, x :: r, hi, h => by
    unfold insAll at hi
    cases q : insP x.1 with
    | error e =>
      rw [q] at hi
      cases hi
    | ok j =>
      rw [q] at hi
      dsimp only at hi
      cases q2 : insAll r with
      | error e =>
        rw [q2] at hi
        cases hi
      | ok l =>
        rw [q2] at hi
        cases hi
        rw [goBad_cons] at h
        split at h
        · rename_i hb
          cases h
          exact ⟨x, List.mem_cons_self .., rfl, i, q, hb⟩
        · obtain ⟨y, hy, h1, h2⟩ := go_err q2 h
          exact ⟨y, List.mem_cons_of_mem _ hy, h1, h2⟩
theorem ins_lift {L : Nat} {i : Ins} (h : InsOk 6000 i) (hj : ¬ (i.jmp = true ∧ (L : Int) < i.n)) : InsOk L i := by
  cases i with
  | z o => trivial
  | u o v =>
    obtain ⟨h0, h1⟩ := h
    refine ⟨h0, ?_⟩
    cases o with
    | zero =>
      refine Int.not_lt.mp fun z => hj ⟨rfl, z⟩
    | go => exact Int.not_lt.mp fun z => hj ⟨rfl, z⟩
    | _ => exact h1
/-! ### the law's questions -/
theorem p_read {l : List Ins} (h1 : 1 ≤ l.length) (h2 : l.length ≤ 6000) (h : ProgOk l) {fs : List Str} (hl : Loose (Txt.split (progText l) "\n") fs) : progR (Txt.join "\n" fs) = .ok l := by
  rw [prog_text] at hl
  have e := loose_lines (gt_prog h1 h) hl
  have el : (linesOf (Txt.join "\n" fs)).length = l.length := by
    have := congrArg List.length e
    rw [List.length_map, List.length_map] at this
    exact this
  unfold progR
  rw [if_neg (by omega), if_neg (by omega), all_fwd (L := l.length) h2 e h]
  dsimp only
  rw [go_fwd (Nat.le_refl _) h]
theorem p_bent {l : List Ins} (h1 : 1 ≤ l.length) (h2 : l.length ≤ 6000) (h : ProgOk l) {a p : Nat} {x : Str} (hx : GW x) (ha : a < (Txt.split (progText l) "\n").length) :
    (∀ l', progR (bentT (Txt.split (progText l) "\n") a p x) = .ok l' → (1 ≤ l'.length ∧ l'.length ≤ 6000 ∧ ProgOk l') ∧ progText l' = bentT (Txt.split (progText l) "\n") a p x) ∧
    ∀ c d, progR (bentT (Txt.split (progText l) "\n") a p x) = .error (c, d) → c = a + 1 := by
  have hg := gt_prog h1 h
  rw [prog_text] at ha ⊢
  rw [text_split hg, List.length_map] at ha
  rw [bent_text hg ha]
  have hg2 := hg.set (p := p) ha hx
  have ha2 : a < l.length := by rw [List.length_map] at ha; exact ha
  have hl2 : ((l.map insWs).set a (((l.map insWs).getD a []).set p x)).length = l.length := by rw [List.length_set, List.length_map]
  have hother : ∀ i, i ≠ a → ((l.map insWs).set a (((l.map insWs).getD a []).set p x)).getD i [] = (l.map insWs).getD i [] := fun i hi => by
    rw [List.getD_eq_getElem?_getD, List.getElem?_set, if_neg (Ne.symm hi), List.getD_eq_getElem?_getD]
  generalize (l.map insWs).set a (((l.map insWs).getD a []).set p x) = WT at hg2 hl2 hother
  have hlines := text_lines hg2
  have hlen : (linesOf (textW WT)).length = l.length := by rw [hlines, List.length_map, List.length_range, hl2]
  have hfst : (linesOf (textW WT)).map (·.1) = WT := by rw [hlines, range_fst]
  have hne : ∀ y ∈ linesOf (textW WT), 1 ≤ y.1.length := fun y hy => by
    have hm : y.1 ∈ WT := by
      rw [← hfst]
      exact List.mem_map.mpr ⟨y, hy, rfl⟩
    cases q : y.1 with
    | nil => exact absurd q (hg2.l _ hm).ne
    | cons _ _ => exact Nat.succ_le_succ (Nat.zero_le _)
  have hgood : ∀ y ∈ linesOf (textW WT), y.2 ≠ a + 1 → ∃ i, insP y.1 = .ok i ∧ InsOk l.length i := fun y hy hya => by
    rw [hlines] at hy
    obtain ⟨i, hi, rfl⟩ := List.mem_map.mp hy
    have hi := List.mem_range.mp hi
    have hia : i ≠ a := fun z => hya (by rw [z])
    dsimp only
    rw [hother i hia]
    have hil : i < l.length := by omega
    have e : (l.map insWs).getD i [] = insWs (l[i]) := by
      rw [List.getD_eq_getElem?_getD, List.getElem?_map, List.getElem?_eq_getElem hil]
      rfl
    rw [e]
    exact ⟨_, ins_fwd h2 (h _ (List.getElem_mem hil)), h _ (List.getElem_mem hil)⟩
  have hp : progR (textW WT) = match insAll (linesOf (textW WT)) with
      | .error e => .error e
      | .ok l => match goBad l.length l (linesOf (textW WT)) with
        | some a => .error (a, 2)
        | none => .ok l := by
    unfold progR
    rw [if_neg (by omega), if_neg (by omega)]
    try rfl
  rw [hp]
  constructor
  · intro l' hr
    cases q : insAll (linesOf (textW WT)) with
    | error e =>
      rw [q] at hr
      cases hr
    | ok l2 =>
      rw [q] at hr
      dsimp only at hr
      cases q2 : goBad l2.length l2 (linesOf (textW WT)) with
      | some a =>
        rw [q2] at hr
        cases hr
      | none =>
        rw [q2] at hr
        cases hr
        obtain ⟨b1, b2⟩ := all_back hne q
        have ll := insAll_len q
        refine ⟨⟨by omega, by omega, fun i hi => ins_lift (b2 i hi) (go_back ll q2 i hi)⟩, ?_⟩
        rw [prog_text, ← b1, hfst]
  · intro c d hr
    refine Decidable.byContradiction fun hc => ?_
    cases q : insAll (linesOf (textW WT)) with
    | error e =>
      rw [q] at hr
      cases hr
      obtain ⟨y, hy, rfl, e, he⟩ := all_err q
      obtain ⟨i, k1, _⟩ := hgood y hy hc
      rw [he] at k1
      cases k1
    | ok l2 =>
      rw [q] at hr
      dsimp only at hr
      cases q2 : goBad l2.length l2 (linesOf (textW WT)) with
      | none =>
        rw [q2] at hr
        cases hr
      | some a' =>
        rw [q2] at hr
        cases hr
        have ll := insAll_len q
        obtain ⟨y, hy, rfl, i, k1, k2⟩ := go_err q q2
        obtain ⟨j, k3, k4⟩ := hgood y hy hc
        rw [k1] at k3
        cases k3
        exact ins_jmp (by omega) k4 k2
end K11
/-! K11MD: the fixed cases. -/
namespace K11
open PySem PySem.Spec PyProof.Rows
def isErr {α : Type} (r : Except (Nat × Nat) α) (e : Nat × Nat) : Bool := match r with
  | .error x => decide (x = e)
  | .ok _ => false
theorem isErr_eq {α : Type} {r : Except (Nat × Nat) α} {e : Nat × Nat} (h : isErr r e = true) : r = .error e := by
  unfold isErr at h
  split at h
  · rw [of_decide_eq_true h]
  · cases h
def startM : Str := "prime 2\nstir 0 1\nstir 1 0\n"
def casesM1 : List (Str × Nat × Nat) := [("", 2, 1), ("stir 1", 1, 1), ("prime 4", 1, 2), ("prime 2 2", 1, 3), ("prime 2", 2, 1)]
def casesM2 : List (Str × Nat × Nat) := [("prime", 1, 2)]
def casesM3 : List (Str × Nat × Nat) := [("prime 2\nstir", 2, 2), ("prime 2\nstir 1 1\nstir 1 1", 2, 1)]
def casesM4 : List (Str × Nat × Nat) := [("prime 2\nstir 1 0", 2, 1)]
def casesM5 : List (Str × Nat × Nat) := [(startM ++ "see 1 0", 4, 1), (startM ++ "write 1 0", 5, 1), (startM ++ "write 1", 4, 3)]
def casesM6 : List (Str × Nat × Nat) := [(startM ++ "stir 1 1", 4, 1)]
def casesM7 : List (Str × Nat × Nat) := [(startM ++ "write 1 0 1", 4, 4), (startM ++ "write 1 2", 4, 3)]
def casesM8 : List (Str × Nat × Nat) := [(startM ++ "write 0 1\nsee 1 0\nwrite 1 1", 6, 1)]
def casesM9 : List (Str × Nat × Nat) := [(startM ++ Txt.join "\n" (List.replicate 5 "write 1 1"), 8, 1), ("prime 2\nstir 1 0 0 0 0", 2, 6)]
def casesM : List (Str × Nat × Nat) := casesM1 ++ casesM2 ++ casesM3 ++ casesM4 ++ casesM5 ++ casesM6 ++ casesM7 ++ casesM8 ++ casesM9
def casesP1 : List (Str × Nat × Nat) := [("", 2, 1), ("hum", 1, 1), ("get", 1, 2), ("get 4", 1, 2), ("say 1", 1, 2), ("put 7", 1, 2)]
def casesP2 : List (Str × Nat × Nat) := [("add 0 0", 1, 3), ("go 2", 1, 2), ("go 6001", 1, 2), ("wait\nzero 3", 2, 2)]
def casesP3 : List (Str × Nat × Nat) := [("put -1", 1, 2), (" \n\nwait 1", 3, 2)]
def casesP : List (Str × Nat × Nat) := casesP1 ++ casesP2 ++ casesP3
theorem casesM_all : (casesM.all fun x => decide (x.1.length ≤ 20000) && isErr (machR x.1) x.2) = true := by decide +kernel
theorem casesP_all : (casesP.all fun x => decide (x.1.length ≤ 20000) && isErr (progR x.1) x.2) = true := by decide +kernel
theorem casesM_ok {x : Str × Nat × Nat} (h : x ∈ casesM) : x.1.length ≤ 20000 ∧ machR x.1 = .error x.2 := by
  have q := List.all_eq_true.mp casesM_all x h
  rw [Bool.and_eq_true] at q
  exact ⟨of_decide_eq_true q.1, isErr_eq q.2⟩
theorem casesP_ok {x : Str × Nat × Nat} (h : x ∈ casesP) : x.1.length ≤ 20000 ∧ progR x.1 = .error x.2 := by
  have q := List.all_eq_true.mp casesP_all x h
  rw [Bool.and_eq_true] at q
  exact ⟨of_decide_eq_true q.1, isErr_eq q.2⟩
def bentM : List Str := ["prime", "stir", "see", "0", "1", "6", "8", "01", "x"]
def bentP : List Str := ["get", "go", "say", "put", "0", "3", "9", "99", "00", "hum", "wait"]
theorem bentM_all : (bentM.all fun x => decide (x.length ≤ 14) && (!(TL.tl x).isEmpty && !decide (32 ∈ TL.tl x) && !decide (10 ∈ TL.tl x))) = true := by decide +kernel
theorem bentP_all : (bentP.all fun x => decide (x.length ≤ 14) && (!(TL.tl x).isEmpty && !decide (32 ∈ TL.tl x) && !decide (10 ∈ TL.tl x))) = true := by decide +kernel
theorem bentM_ok {x : Str} (h : x ∈ bentM) : x.length ≤ 14 ∧ GW x := by
  have q := List.all_eq_true.mp bentM_all x h
  rw [Bool.and_eq_true] at q
  exact ⟨of_decide_eq_true q.1, gw_dec q.2⟩
theorem bentP_ok {x : Str} (h : x ∈ bentP) : x.length ≤ 14 ∧ GW x := by
  have q := List.all_eq_true.mp bentP_all x h
  rw [Bool.and_eq_true] at q
  exact ⟨of_decide_eq_true q.1, gw_dec q.2⟩
/-! ### sizes -/
theorem lines_txt {WT : List (List Str)} (h : GT WT) (h1 : WT.length ≤ 21) (h2 : ∀ ws ∈ WT, (lineW ws).length ≤ 14) : TxtOk (textW WT) := by
  have hs := text_split h
  have hl : ∀ l ∈ WT.map lineW, l.length ≤ 14 := fun l hl => by
    obtain ⟨ws, hw, rfl⟩ := List.mem_map.mp hl
    exact h2 ws hw
  refine ⟨?_, by rw [hs, List.length_map]; exact h1, by rw [hs]; exact hl⟩
  have := join_le (y := "\n") hl
  rw [List.length_map, one_nl] at this
  unfold textW
  have h3 : WT.length * (14 + 1) ≤ 21 * 15 := Nat.mul_le_mul h1 (Nat.le_refl _)
  omega
theorem txt_mac {m : Mac} (h : m.Ok) : TxtOk (macText m) := by
  have hg := gt_mac h
  have hp := h.pr.pos
  have h4 := h.n4
  rw [mac_text h]
  refine lines_txt hg ?_ fun ws hw => ?_
  · have a1 := h.st.len
    have a2 := h.wr.hi
    have a3 := h.si.hi
    show (wordsM m).length ≤ 21
    unfold wordsM parts
    simp only [List.length_cons, List.flatMap_cons, List.flatMap_nil, List.length_append, List.length_map, List.length_nil]
    omega
  · unfold wordsM at hw
    rcases List.mem_cons.mp hw with rfl | hw
    · rw [line_two, Str.length_append, Str.length_append, one_sp, numS_1 (by omega) (by omega)]
      have : ("prime" : Str).length = 5 := by decide +kernel
      omega
    · obtain ⟨x, hx, hw⟩ := List.mem_flatMap.mp hw
      obtain ⟨r, hr, rfl⟩ := List.mem_map.mp hw
      obtain ⟨t1, t2, t3⟩ := h.tab x hx
      have hro := t3 r hr
      have hn1 := h.n1
      rw [line_row (fun z => by have := hro.len; rw [z] at this; exact absurd this (by simp; omega))]
      exact row_le hp.2 h4 hro t1
theorem txt_prog {l : List Ins} (h1 : 1 ≤ l.length) (h2 : l.length ≤ 21) (h : ProgOk l) : TxtOk (progText l) := by
  rw [prog_text]
  refine lines_txt (gt_prog h1 h) (by rw [List.length_map]; exact h2) fun ws hw => ?_
  obtain ⟨i, hi, rfl⟩ := List.mem_map.mp hw
  exact Nat.le_trans (insTxt_le (L := l.length) (by omega) (h i hi)) (by omega)
theorem loose_size {x : Str} (h : TxtOk x) {fs : List Str} (hl : Loose (Txt.split x "\n") fs) : (Txt.join "\n" fs).length ≤ 20000 := by
  obtain ⟨_, h2, h3⟩ := h
  obtain ⟨l1, l2⟩ := hl.len h3
  have := join_le (y := "\n") l2
  rw [one_nl] at this
  have h4 : fs.length * (48 + 1) ≤ 42 * 49 := Nat.mul_le_mul (by omega) (Nat.le_refl _)
  omega
theorem bent_size {x y : Str} (h : TxtOk x) (hy : y.length ≤ 14) {a p : Nat} : (bentT (Txt.split x "\n") a p y).length ≤ 20000 := by
  obtain ⟨_, h2, h3⟩ := h
  unfold bentT
  have hb : ∀ l ∈ (Txt.split x "\n").take a ++ [Txt.join " " ((Txt.split ((Txt.split x "\n").getD a Str.empty) " ").set p y)] ++ (Txt.split x "\n").drop (a + 1), l.length ≤ 300 := fun l hl => by
    rcases List.mem_append.mp hl with hl | hl
    · rcases List.mem_append.mp hl with hl | hl
      · exact Nat.le_trans (h3 l (List.mem_of_mem_take hl)) (by omega)
      · rw [List.mem_singleton.mp hl]
        have ha : ((Txt.split x "\n").getD a Str.empty).length ≤ 14 := by
          rw [List.getD_eq_getElem?_getD]
          cases q : (Txt.split x "\n")[a]? with
          | none => exact Nat.zero_le _
          | some z => exact h3 z (List.mem_of_getElem? q)
        have hp : ∀ w ∈ (Txt.split ((Txt.split x "\n").getD a Str.empty) " ").set p y, w.length ≤ 14 := set_le (fun w hw => Nat.le_trans (PyProof.Rows.part_short hw) ha) hy
        have h5 := PyProof.Rows.split_le ((Txt.split x "\n").getD a Str.empty) " "
        have := join_le (y := " ") hp
        rw [one_sp, List.length_set] at this
        have h6 : (Txt.split ((Txt.split x "\n").getD a Str.empty) " ").length * (14 + 1) ≤ 16 * 15 := Nat.mul_le_mul (by omega) (Nat.le_refl _)
        omega
    · exact Nat.le_trans (h3 l (List.mem_of_mem_drop hl)) (by omega)
  have := join_le (y := "\n") hb
  rw [one_nl] at this
  have hlen : ((Txt.split x "\n").take a ++ [Txt.join " " ((Txt.split ((Txt.split x "\n").getD a Str.empty) " ").set p y)] ++ (Txt.split x "\n").drop (a + 1)).length ≤ 43 := by
    rw [List.length_append, List.length_append, List.length_take, List.length_drop]
    show _ + 1 + _ ≤ 43
    omega
  have h4 := Nat.mul_le_mul hlen (Nat.le_refl (300 + 1))
  omega
end K11
/-! K11ZW: readings of what _law_said_session answers. -/
namespace K11
open PySem PySem.Spec PyProof.Rows
open L2
def toldD {α : Type} : Except (Nat × Nat) α → D
  | .ok _ => .non
  | .error x => .tup [.int (x.1 : Int), .int (x.2 : Int)]
section
variable {K : PySem.W.Frag} {T : List (Addr × Str)} {P : List Addr} {B : Hp} {δ : List Sl} {ta : TA} {C CS pL : Addr} {q : Str} {H H1 : Hp}
theorem Ex.tabP (hm : (pL, q) ∈ T) (t : LamX.Tabs T H) (t1 : LamX.Tabs T H1) (x : ExtP pL H H1) : Ex K T H H1 := by
  obtain ⟨ps, hp, _⟩ := t _ hm
  obtain ⟨ps1, hp1, ht1, _⟩ := t1 _ hm
  have hp : H pL = some (.tbl ps) := hp
  have hp1 : H1 pL = some (.tbl ps1) := hp1
  have ne : ∀ b o, H b = some o → gst o = false → b ≠ pL := fun b o hb g z => by
    rw [z, hp] at hb
    cases hb
    cases g
  have neL : ∀ b xs, H b = some (.lst xs) → b ≠ pL := fun b xs hb z => by
    rw [z, hp] at hb
    cases hb
  refine ⟨fun b o hb g => x b o hb (ne b o hb g), fun b hb => ?_, fun b a ns r => ?_, fun _ => t1, fun b hb => ?_⟩
  · by_cases z : b = pL
    · rw [z]
      exact ⟨ps1, hp1, ht1⟩
    · obtain ⟨qs, h1, h2⟩ := hb
      exact ⟨qs, x b _ h1 z, h2⟩
  · obtain ⟨i, j, k, hb, hs, r2⟩ := r
    refine ⟨i, j, k, x b _ hb (neL b _ hb), ?_, r2⟩
    rcases hs with (hs | ⟨u, hs⟩) | hs
    · exact .inl (.inl (x a _ hs (neL a _ hs)))
    · exact .inl (.inr ⟨u, x a _ hs (ne a _ hs rfl)⟩)
    · exact .inr hs
  · cases qb : H b with
    | none => rfl
    | some o =>
      by_cases z : b = pL
      · rw [z, hp1] at hb
        cases hb
      · rw [x b o qb z] at hb
        cases hb
/-- what the lambda's call of a reader of a text makes -/
theorem e_said {α : Type} {f : Str → Except (Nat × Nat) α} {g : α → D} {bt : Str} (hm : (pL, q) ∈ T) (hl : bt.length ≤ 20000) (h : Ea1 K T P B ta δ [.str bt]) :
    E1 K T P B (tLamP pL T (TTs C CS) (fun E => tCallS (spX K T P C (ι := Str) (fun i => [.str i]) (fun i => i.length ≤ 20000) (fun i d => ∃ q, f i = .ok q ∧ d = g q) (fun i l p => ∃ a b : Nat, f i = .error (a, b) ∧ l = (a : Int) ∧ p = (b : Int))) (fun σ => WE (fun cls d _ H => E cls d H) σ) ta)) δ (toldD (f bt)) := fun σ W R H1 e Q qq => by
  have t1 : LamX.Tabs T H1 := e.lam R.g.t
  refine ⟨t1, fun H2 ep t2 => ?_⟩
  have ex := Ex.tabP (K := K) hm t1 t2 ep
  have z0 := Vw.mk0 e ex
  refine h σ _ (R.mono z0.up) H2 z0.to _ fun ds vs W3 H3 hd z3 rv => ?_
  subst hd
  have ac3 : Ex K T H1 H3 := ex.trans z3.ac
  refine ⟨bt, H3, Ex.refl _, ex_rpl z3.to _ _ rv, (R.g.mono (z0.up.trans z3.up)).mono z3.to, hl, fun d v W' H' hd z rv => ?_, fun l p dx H' he ex' hdx => .inl ⟨rfl, dx, l, p, rfl, hdx, fun t ht => ?_⟩⟩
  · obtain ⟨m, hm2, _⟩ := hd
    exact qq .non .non _ H' (by rw [hm2]; rfl) (Vw.mk0 e (ac3.trans z.ac)) rp_n
  · obtain ⟨a, b, hm2, rfl, rfl⟩ := he
    have hn : H1 t = none := (ac3.trans ex').has t ht
    refine qq (.tup [.int (a : Int), .int (b : Int)]) _ _ _ (by rw [hm2]; rfl) (Vw.mk0 e ((ac3.trans ex').trans (Ex.new ht))) ⟨t, [.int (a : Int), .int (b : Int)], rfl, SqT.of ((rs_in (.inr (.inr hn))).trans upd_same), rp_i, rp_i, trivial⟩
/-- what the lambda's call of a reader of no text makes -/
theorem e_saidB {bd : D} (hm : (pL, q) ∈ T) (hb : notS bd) (h : Ea1 K T P B ta δ [bd]) :
    E1 K T P B (tLamP pL T (TTs C CS) (fun E => tCallS (sp_noT K T P CS) (fun σ => WE (fun cls d _ H => E cls d H) σ) ta)) δ (.str "string") := fun σ W R H1 e Q qq => by
  have t1 : LamX.Tabs T H1 := e.lam R.g.t
  refine ⟨t1, fun H2 ep t2 => ?_⟩
  have ex := Ex.tabP (K := K) hm t1 t2 ep
  have z0 := Vw.mk0 e ex
  refine h σ _ (R.mono z0.up) H2 z0.to _ fun ds vs W3 H3 hd z3 rv => ?_
  subst hd
  have ac3 : Ex K T H1 H3 := ex.trans z3.ac
  exact ⟨bd, H3, Ex.refl _, ex_rpl z3.to _ _ rv, (R.g.mono (z0.up.trans z3.up)).mono z3.to, hb, fun H' ex' => .inr ⟨rfl, qq _ _ _ H' rfl (Vw.mk0 e (ac3.trans ex')) rp_s⟩⟩
end
end K11
/-! K11ZX: the law. -/
namespace K11
open PySem PySem.Spec PyProof.Rows
open L2
section
variable {PP : Program} {w : World} {K : PySem.W.Frag} {mg : Str → Option Value} {base : Heap} {c p0 : Addr}
theorem DfnT.okX {x : Str} {i : Nat} {f : Addr} {fd : FuncData} {N ps : List Str} {k : Nat} {sp : Sp} (F : DfnT K mg base x i ps f fd c p0) (S : FnScope N ps (defScope (topS i))) (len : ∀ vs H Q E, sp vs H Q E → vs.length = ps.length)
    (hbody : ∀ (A : Around) (outer : List Env) (s : Shared) (H : Hp) (vs : List V) (Q : VK) (E : XK), Room k (A.deeper (envOfC x (defScope (topS i)) s.heap.objs.size f (.ref c))) → sp vs H Q E →
      ∃ t, PSs (cxOf (L2.CX PP w) PP w K mg base N x (defScope (topS i)) f (.ref c) A outer s H E) (defBody (topS i)) t ∧ t { nx := fun _ H' => Q .non H', rt := Q } (L2.start N vs) H) : FnOk PP w K mg base (L2.CX PP w) (k + 1) f fd ps sp := by
  obtain ⟨oc, od, dV, kV, doc, pm, an, ct, osl, rfl, lk, hcd⟩ := F.ex
  exact fn_of lk hcd S len fun A outer s H vs Q E hr hsp => hbody A outer s H vs Q E hr hsp
end
def lamQ : Str := (envOfC "law" (defScope (topS 55)) 0 0 .none).qual ++ "<lambda>"
def caseD (x : Str × Nat × Nat) : D := .tup [.str x.1, .tup [.int (x.2.1 : Int), .int (x.2.2 : Int)]]
theorem rowD_case (l : List (Str × Nat × Nat)) : rowD (l.map caseD) = false := rowD_nints fun d hd => by
  obtain ⟨_, _, rfl⟩ := List.mem_map.mp hd
  rfl
theorem alike_row {ns : List Int} (h : ns.length ≤ 7000) : AlikeOk 1 (rowT ns) := .inr ⟨_, rfl, by rw [len_map]; exact h, fun x hx => by
  obtain ⟨_, _, rfl⟩ := List.mem_map.mp hx
  trivial⟩
theorem alike_rows {p : Int} {n : Nat} {rs : List (List Int)} (h : rs.length ≤ 7000) (hn : n ≤ 4) (hr : ∀ r ∈ rs, RowOk p n r) : AlikeOk 2 (rowsT rs) := .inr ⟨_, rfl, by rw [len_map]; exact h, fun x hx => by
  obtain ⟨r, hm, rfl⟩ := List.mem_map.mp hx
  have := (hr r hm).len
  exact alike_row (by omega)⟩
theorem alike_mac {m : Mac} (h : m.Ok) : AlikeOk 3 m.d := by
  have h4 := h.n4
  have a1 := h.st.len
  have a2 := h.wr.hi
  have a3 := h.si.hi
  refine .inr ⟨_, rfl, by show 4 ≤ 7000; omega, fun x hx => ?_⟩
  simp only [List.mem_cons, List.not_mem_nil, or_false] at hx
  rcases hx with rfl | rfl | rfl | rfl
  · exact .inl trivial
  · exact alike_rows (by omega) h4 h.st.row
  · exact alike_rows (by omega) h4 h.wr.row
  · exact alike_rows (by omega) h4 h.si.row
theorem alike_prog {l : List Ins} (h : l.length ≤ 7000) : AlikeOk 3 (progT l) := .inr ⟨_, rfl, by rw [len_map]; exact h, fun x hx => by
  obtain ⟨i, _, rfl⟩ := List.mem_map.mp hx
  cases i with
  | z o => exact .inr ⟨_, rfl, by show 1 ≤ 7000; omega, fun y hy => by rw [List.mem_singleton.mp hy]; exact .inl trivial⟩
  | u o n => exact .inr ⟨_, rfl, by show 2 ≤ 7000; omega, fun y hy => by
      simp only [List.mem_cons, List.not_mem_nil, or_false] at hy
      rcases hy with rfl | rfl
      · exact .inl trivial
      · exact .inl trivial⟩⟩
theorem e_case {K : PySem.W.Frag} {T : List (Addr × Str)} {P : List Addr} {B : Hp} {δ : List Sl} {ta : TE} {x : Str} {i j : Nat} (h : E1 K T P B ta δ (.str x)) : E1 K T P B (tTup (tCons ta (tCons (tTup (tCons (tC (.int (i : Int))) (tCons (tC (.int (j : Int))) tNil))) tNil))) δ (caseD (x, i, j)) :=
  e_tup (a_2 h (e_tup (a_2 e_int e_int) (hl := by show 2 ≤ 100000; omega))) (hl := by show 2 ≤ 100000; omega)
def spLaw (K : PySem.W.Frag) (T : List (Addr × Str)) (P : List Addr) : Sp := fun vs H Q _ => ∃ (a : Addr) (ns : List Int), vs = [.ref a] ∧ SqL K H a (ns.map V.int) ∧ Gd T P H ∧ ∀ H', Q (.bl true) H'
variable {PP : Program} {w : World} {K : PySem.W.Frag} {T : List (Addr × Str)} {P : List Addr} {mg : Str → Option Value} {base : Heap} {C CS fI aP aS aW c pL : Addr} {fdI : FuncData}
theorem sc_law : FnScope ["_law_script", "_law_row_here", "_law_machine_here", "_law_text", "_law_bent_here", "_law_at", "_law_place", "_law_told", "_law_start", "_law_cases", "_law_case", "_law_due", "_law_program_here", "_law_one", "_law_part"] ["_law_script"] (defScope (topS 55)) := ⟨rfl, rfl, rfl, by decide +kernel, rfl, by decide +kernel, by decide +kernel⟩
theorem ok_law {f f1 f2 f3 f4 f5 f6 f7 f8 f9 f10 f11 f12 : Addr} {fd fd1 fd2 fd3 fd4 fd5 fd6 fd7 fd8 fd9 fd10 fd11 fd12 : FuncData} (TT : Tx K mg) (EF : ExF K mg C CS) (hT1 : (pL, lamQ) ∈ T) (hT2 : ∀ p ∈ T, p.1 = pL → p.2 = lamQ) (TBL : LamX.TabB base mg c pL)
    (F : DfnT K mg base "law" 55 ["_law_script"] f fd c pL)
    (D_law_machine : Dfn K mg "_law_machine" 48 ["_law_row_here", "_law_primes", "_law_cells", "_law_plugs"] f1 fd1) (G_law_machine : FnOk PP w K mg base CX0 3 f1 fd1 ["_law_row_here", "_law_primes", "_law_cells", "_law_plugs"] (sp_mac K T P))
    (D_law_machine_text : Dfn K mg "_law_machine_text" 54 ["_law_machine_here"] f2 fd2) (G_law_machine_text : FnOk PP w K mg base CX0 1 f2 fd2 ["_law_machine_here"] (sp_mtext K T P))
    (D_write_machine : Dfn K mg "write_machine" 32 ["machine"] f3 fd3) (G_write_machine : FnOk PP w K mg base CX0 11 f3 fd3 ["machine"] (sp_wmac K T P))
    (D_law_alike : Dfn K mg "_law_alike" 45 ["_law_found", "_law_due"] f4 fd4) (G_law_alike : FnOk PP w K mg base CX0 4 f4 fd4 ["_law_found", "_law_due"] (sp_alike K T P 3))
    (D_law_loose : Dfn K mg "_law_loose" 52 ["_law_row_here", "_law_text"] f5 fd5) (G_law_loose : FnOk PP w K mg base CX0 2 f5 fd5 ["_law_row_here", "_law_text"] (sp_loose K T P))
    (D_read_machine : Dfn K mg "read_machine" 37 ["text"] f6 fd6) (G_read_machine : FnOk PP w K mg base (L2.CX PP w) 9 f6 fd6 ["text"] (sp_rmach K T P C)) (G_read_machineX : FnOk PP w K mg base (L2.CX PP w) 2 f6 fd6 ["text"] (sp_noT K T P CS))
    (D_law_bent : Dfn K mg "_law_bent" 53 ["_law_row_here", "_law_text", "_law_words"] f7 fd7) (G_law_bent : FnOk PP w K mg base CX0 3 f7 fd7 ["_law_row_here", "_law_text", "_law_words"] (sp_bent K T P))
    (D_law_said_session : Dfn K mg "_law_said_session" 51 ["_law_work"] f8 fd8)
    (D_law_pick : Dfn K mg "_law_pick" 44 ["_law_row_here", "_law_things"] f9 fd9) (G_law_pick : FnOk PP w K mg base CX0 2 f9 fd9 ["_law_row_here", "_law_things"] (sp_pick K T P))
    (D_law_bent_kept : Dfn K mg "_law_bent_kept" 50 ["_law_row_here", "_law_machine_here", "_law_program_here"] f10 fd10) (G_law_bent_kept : FnOk PP w K mg base CX0 3 f10 fd10 ["_law_row_here", "_law_machine_here", "_law_program_here"] (sp_kept K T P))
    (D_law_program : Dfn K mg "_law_program" 49 ["_law_row_here", "_law_prime", "_law_values", "_law_most"] f11 fd11) (G_law_program : FnOk PP w K mg base CX0 3 f11 fd11 ["_law_row_here", "_law_prime", "_law_values", "_law_most"] (sp_prog K T P))
    (D_write_program : Dfn K mg "write_program" 39 ["program"] f12 fd12) (G_write_program : FnOk PP w K mg base CX0 4 f12 fd12 ["program"] (sp_wprog K T P))
    {f13 : Addr} {fd13 : FuncData} (D_read_program : Dfn K mg "read_program" 41 ["text"] f13 fd13) (G_read_program : FnOk PP w K mg base (L2.CX PP w) 9 f13 fd13 ["text"] (sp_rprog K T P C)) (G_read_programX : FnOk PP w K mg base (L2.CX PP w) 2 f13 fd13 ["text"] (sp_noT K T P CS)) :
    FnOk PP w K mg base (L2.CX PP w) 12 f fd ["_law_script"] (spLaw K T P) := by
  refine F.okX sc_law (by rintro vs H Q E ⟨a, ns, rfl, _⟩; rfl) fun A outer s H vs Q XE hr h => ?_
  obtain ⟨aa, ns, rfl, hs, g, k⟩ := h
  obtain ⟨ocS, odS, dVS, kVS, docS, pmS, anS, cdS, ctS, oslS, eS, lkS, hcdS⟩ := D_law_said_session.ex
  have bS := D_law_said_session.b
  rw [eS] at lkS bS
  refine ⟨_, (pss_cons (ps_set (i := 1) sc_law.nd rfl (Or.inl rfl) (pe_lst (pa_cons (pv 0) (pa_cons pe_int (pa_cons pe_int (pa_cons pe_int pa_nil))))))
      (pss_cons (ps_set (i := 2) sc_law.nd rfl (Or.inl rfl) (pe_call G_law_machine (hr.mono (by decide)) (by rfl) D_law_machine.mg D_law_machine.kp D_law_machine.b .nil pass0 (pa_cons (pv 1) (pa_cons (pe_lst (pa_cons pe_int (pa_cons pe_int (pa_cons pe_int (pa_cons pe_int pa_nil))))) (pa_cons pe_int (pa_cons pe_int pa_nil))))))
      (pss_cons (ps_set (i := 3) sc_law.nd rfl (Or.inl rfl) (pe_call G_law_machine_text (hr.mono (by decide)) (by rfl) D_law_machine_text.mg D_law_machine_text.kp D_law_machine_text.b .nil pass0 (pa_cons (pv 2) pa_nil)))
      (pss_cons (ps_if (PW.pt (pw_or (pt_cmpR op_ne (pe_call G_write_machine (hr.mono (by decide)) (by rfl) D_write_machine.mg D_write_machine.kp D_write_machine.b .nil pass0 (pa_cons (pv 2) pa_nil)) (pv 3) (nomark _)) (pw_or1 (pt_not (pt_val (pe_call G_law_alike (hr.mono (by decide)) (by rfl) D_law_alike.mg D_law_alike.kp D_law_alike.b .nil pass0 (pa_cons (pe_callS G_read_machine (hr.mono (by decide)) (by rfl) D_read_machine.mg D_read_machine.kp D_read_machine.b (fun σ => passAt (takes_of rfl rfl rfl rfl) σ) (pa_cons (pe_call G_law_loose (hr.mono (by decide)) (by rfl) D_law_loose.mg D_law_loose.kp D_law_loose.b .nil pass0 (pa_cons (pv 1) (pa_cons (pv 3) pa_nil))) pa_nil)) (pa_cons (pv 2) pa_nil))))))))
      (pss_one (ps_ret pe_bl))
      pss_nil)
      (pss_cons (ps_asg (pe_call G_law_bent (hr.mono (by decide)) (by rfl) D_law_bent.mg D_law_bent.kp D_law_bent.b .nil pass0 (pa_cons (pv 1) (pa_cons (pv 3) (pa_cons (pe_lst (pa_cons pe_str (pa_cons pe_str (pa_cons pe_str (pa_cons pe_str (pa_cons pe_str (pa_cons pe_str (pa_cons pe_str (pa_cons pe_str (pa_cons pe_str pa_nil)))))))))) pa_nil)))) (pg_tup (by rfl) (pgs_cons (pg_name (i := 4) sc_law.nd rfl (Or.inr rfl)) (pgs_cons (pg_name (i := 5) sc_law.nd rfl (Or.inl rfl)) (pgs_cons (pg_name (i := 6) sc_law.nd rfl (Or.inl rfl)) pgs_nil)))))
      (pss_cons (ps_set (i := 7) sc_law.nd rfl (Or.inl rfl) (pe_lamcallN (k := 9) (by rfl) D_law_said_session.mg D_law_said_session.kp lkS hcdS bS sc_law_said rfl (.inl rfl) (gives_said EF) TBL rfl hT1 hT2 (hr.mono (by decide)) (LamX.lamS_by (by rfl)) (by rfl) (fun _ _ _ _ _ => rfl) (fun A outer s H E f c' hr2 => pe_callS G_read_machine (hr2.mono (by decide)) (by rfl) D_read_machine.mg D_read_machine.kp D_read_machine.b (fun σ => passAt (takes_of rfl rfl rfl rfl) σ) (pa_cons (pv 4) pa_nil))))
      (pss_cons (ps_if (PW.pt (pw_and (pt_cmpR op_isN (pv 7) pe_non (nomark _)) (pw_and1 (pt_cmpR op_ne (pe_call G_write_machine (hr.mono (by decide)) (by rfl) D_write_machine.mg D_write_machine.kp D_write_machine.b .nil pass0 (pa_cons (pe_callS G_read_machine (hr.mono (by decide)) (by rfl) D_read_machine.mg D_read_machine.kp D_read_machine.b (fun σ => passAt (takes_of rfl rfl rfl rfl) σ) (pa_cons (pv 4) pa_nil)) pa_nil)) (pv 4) (nomark _)))))
      (pss_one (ps_ret pe_bl))
      pss_nil)
      (pss_cons (ps_set (i := 8) sc_law.nd rfl (Or.inl rfl) pe_str)
      (pss_cons (ps_set (i := 9) sc_law.nd rfl (Or.inl rfl) (pe_lst (pa_cons (pe_tup (pa_cons pe_str (pa_cons (pe_tup (pa_cons pe_int (pa_cons pe_int pa_nil))) pa_nil))) (pa_cons (pe_tup (pa_cons pe_str (pa_cons (pe_tup (pa_cons pe_int (pa_cons pe_int pa_nil))) pa_nil))) (pa_cons (pe_tup (pa_cons pe_str (pa_cons (pe_tup (pa_cons pe_int (pa_cons pe_int pa_nil))) pa_nil))) (pa_cons (pe_tup (pa_cons pe_str (pa_cons (pe_tup (pa_cons pe_int (pa_cons pe_int pa_nil))) pa_nil))) (pa_cons (pe_tup (pa_cons pe_str (pa_cons (pe_tup (pa_cons pe_int (pa_cons pe_int pa_nil))) pa_nil))) pa_nil)))))))
      (pss_cons (ps_expr (pe_bm PySem.F.plainAttrs_list PySem.F.slot_list_append PySem.F.type_list_append mt_append (pv 9) (pa_cons (pe_tup (pa_cons pe_str (pa_cons (pe_tup (pa_cons pe_int (pa_cons pe_int pa_nil))) pa_nil))) pa_nil)))
      (pss_cons (ps_set (i := 9) sc_law.nd rfl (Or.inl rfl) (pe_op op_cat (pv 9) (pe_lst (pa_cons (pe_tup (pa_cons pe_str (pa_cons (pe_tup (pa_cons pe_int (pa_cons pe_int pa_nil))) pa_nil))) (pa_cons (pe_tup (pa_cons pe_str (pa_cons (pe_tup (pa_cons pe_int (pa_cons pe_int pa_nil))) pa_nil))) pa_nil)))))
      (pss_cons (ps_expr (pe_bm PySem.F.plainAttrs_list PySem.F.slot_list_append PySem.F.type_list_append mt_append (pv 9) (pa_cons (pe_tup (pa_cons pe_str (pa_cons (pe_tup (pa_cons pe_int (pa_cons pe_int pa_nil))) pa_nil))) pa_nil)))
      (pss_cons (ps_set (i := 9) sc_law.nd rfl (Or.inl rfl) (pe_op op_cat (pv 9) (pe_lst (pa_cons (pe_tup (pa_cons (pe_op op_add_str (pv 8) pe_str) (pa_cons (pe_tup (pa_cons pe_int (pa_cons pe_int pa_nil))) pa_nil))) (pa_cons (pe_tup (pa_cons (pe_op op_add_str (pv 8) pe_str) (pa_cons (pe_tup (pa_cons pe_int (pa_cons pe_int pa_nil))) pa_nil))) (pa_cons (pe_tup (pa_cons (pe_op op_add_str (pv 8) pe_str) (pa_cons (pe_tup (pa_cons pe_int (pa_cons pe_int pa_nil))) pa_nil))) pa_nil))))))
      (pss_cons (ps_expr (pe_bm PySem.F.plainAttrs_list PySem.F.slot_list_append PySem.F.type_list_append mt_append (pv 9) (pa_cons (pe_tup (pa_cons (pe_op op_add_str (pv 8) pe_str) (pa_cons (pe_tup (pa_cons pe_int (pa_cons pe_int pa_nil))) pa_nil))) pa_nil)))
      (pss_cons (ps_set (i := 9) sc_law.nd rfl (Or.inl rfl) (pe_op op_cat (pv 9) (pe_lst (pa_cons (pe_tup (pa_cons (pe_op op_add_str (pv 8) pe_str) (pa_cons (pe_tup (pa_cons pe_int (pa_cons pe_int pa_nil))) pa_nil))) (pa_cons (pe_tup (pa_cons (pe_op op_add_str (pv 8) pe_str) (pa_cons (pe_tup (pa_cons pe_int (pa_cons pe_int pa_nil))) pa_nil))) pa_nil)))))
      (pss_cons (ps_expr (pe_bm PySem.F.plainAttrs_list PySem.F.slot_list_append PySem.F.type_list_append mt_append (pv 9) (pa_cons (pe_tup (pa_cons (pe_op op_add_str (pv 8) pe_str) (pa_cons (pe_tup (pa_cons pe_int (pa_cons pe_int pa_nil))) pa_nil))) pa_nil)))
      (pss_cons (ps_set (i := 9) sc_law.nd rfl (Or.inl rfl) (pe_op op_cat (pv 9) (pe_lst (pa_cons (pe_tup (pa_cons (pe_op op_add_str (pv 8) (pe_joinK K pe_str (pe_op op_rep (pe_lst (pa_cons pe_str pa_nil)) pe_int))) (pa_cons (pe_tup (pa_cons pe_int (pa_cons pe_int pa_nil))) pa_nil))) (pa_cons (pe_tup (pa_cons pe_str (pa_cons (pe_tup (pa_cons pe_int (pa_cons pe_int pa_nil))) pa_nil))) pa_nil)))))
      (pss_cons (ps_asg (pe_call G_law_pick (hr.mono (by decide)) (by rfl) D_law_pick.mg D_law_pick.kp D_law_pick.b .nil pass0 (pa_cons (pv 1) (pa_cons (pv 9) pa_nil))) (pg_tup (by rfl) (pgs_cons (pg_name (i := 10) sc_law.nd rfl (Or.inr rfl)) (pgs_cons (pg_name (i := 11) sc_law.nd rfl (Or.inl rfl)) pgs_nil))))
      (pss_cons (ps_if (pt_cmpR (neDK K hr.units) (pe_lamcallD (k := 9) (by rfl) D_law_said_session.mg D_law_said_session.kp lkS hcdS bS sc_law_said rfl (.inl rfl) (gives_said EF) TBL rfl hT1 hT2 (hr.mono (by decide)) (lamD_by (by rfl)) (by rfl) (pe_int (i := 0)) rfl (fun _ _ _ _ _ _ _ => ⟨_, rfl, rfl⟩) (fun A outer s H E f c' hr2 => pe_callS G_read_machine (hr2.mono (by decide)) (by rfl) D_read_machine.mg D_read_machine.kp D_read_machine.b (fun σ => passAt (takes_of rfl rfl rfl rfl) σ) (pa_cons (pv 10) pa_nil))) (pv 11) (nomark _))
      (pss_one (ps_ret pe_bl))
      pss_nil)
      (pss_cons (ps_if (pt_cmpR op_ne (pe_lamcallD (k := 9) (by rfl) D_law_said_session.mg D_law_said_session.kp lkS hcdS bS sc_law_said rfl (.inl rfl) (gives_said EF) TBL rfl hT1 hT2 (hr.mono (by decide)) (lamD_by (by rfl)) (by rfl) (pe_int (i := 0)) rfl (fun _ _ _ _ _ _ _ => ⟨_, rfl, rfl⟩) (fun A outer s H E f c' hr2 => pe_callS G_read_machineX (hr2.mono (by decide)) (by rfl) D_read_machine.mg D_read_machine.kp D_read_machine.b (fun σ => passAt (takes_of rfl rfl rfl rfl) σ) (pa_cons pe_non pa_nil))) pe_str (nomark _))
      (pss_one (ps_ret pe_bl))
      pss_nil)
      (pss_cons (ps_set (i := 12) sc_law.nd rfl (Or.inl rfl) (pe_call G_law_bent_kept (hr.mono (by decide)) (by rfl) D_law_bent_kept.mg D_law_bent_kept.kp D_law_bent_kept.b .nil pass0 (pa_cons (pv 1) (pa_cons (pv 2) (pa_cons (pe_call G_law_program (hr.mono (by decide)) (by rfl) D_law_program.mg D_law_program.kp D_law_program.b .nil pass0 (pa_cons (pv 1) (pa_cons (pe_ix (ixT K) (pv 2) pe_int (fun _ _ => rfl)) (pa_cons pe_int (pa_cons pe_int pa_nil))))) pa_nil)))))
      (pss_cons (ps_set (i := 3) sc_law.nd rfl (Or.inl rfl) (pe_call G_write_program (hr.mono (by decide)) (by rfl) D_write_program.mg D_write_program.kp D_write_program.b .nil pass0 (pa_cons (pv 12) pa_nil)))
      (pss_cons (ps_if (pt_cmpR op_ne (pv 3) (pe_joinK K pe_str (pe_lc (g := gName 13) (own := [("_law_one", 13)]) (by rfl) sc_law.nd (piT K (pv 12)) (blkOk_by (own := [("_law_one", 13)]) (by rfl)) (fun _ _ _ _ _ => (pg_name (i := 13) sc_law.nd rfl (Or.inl rfl))) (fun _ _ _ _ _ => pts_nil) (fun _ _ _ _ _ => (pe_joinK K pe_str (pe_lc (g := gName 14) (own := [("_law_part", 14)]) (by rfl) sc_law.nd (piT K (pv 13)) (blkOk_by (own := [("_law_part", 14)]) (by rfl)) (fun _ _ _ _ _ => (pg_name (i := 14) sc_law.nd rfl (Or.inl rfl))) (fun _ _ _ _ _ => pts_nil) (fun _ _ _ _ _ => (pe_callTy call_strA (by rfl) TT.b_str (by decide +kernel) (pa_cons (pv 14) pa_nil)))))))) (nomark _))
      (pss_one (ps_ret pe_bl))
      pss_nil)
      (pss_cons (ps_if (pt_not (pt_val (pe_call G_law_alike (hr.mono (by decide)) (by rfl) D_law_alike.mg D_law_alike.kp D_law_alike.b .nil pass0 (pa_cons (pe_callS G_read_program (hr.mono (by decide)) (by rfl) D_read_program.mg D_read_program.kp D_read_program.b (fun σ => passAt (takes_of rfl rfl rfl rfl) σ) (pa_cons (pe_call G_law_loose (hr.mono (by decide)) (by rfl) D_law_loose.mg D_law_loose.kp D_law_loose.b .nil pass0 (pa_cons (pv 1) (pa_cons (pv 3) pa_nil))) pa_nil)) (pa_cons (pv 12) pa_nil)))))
      (pss_one (ps_ret pe_bl))
      pss_nil)
      (pss_cons (ps_asg (pe_call G_law_bent (hr.mono (by decide)) (by rfl) D_law_bent.mg D_law_bent.kp D_law_bent.b .nil pass0 (pa_cons (pv 1) (pa_cons (pv 3) (pa_cons (pe_lst (pa_cons pe_str (pa_cons pe_str (pa_cons pe_str (pa_cons pe_str (pa_cons pe_str (pa_cons pe_str (pa_cons pe_str (pa_cons pe_str (pa_cons pe_str (pa_cons pe_str (pa_cons pe_str pa_nil)))))))))))) pa_nil)))) (pg_tup (by rfl) (pgs_cons (pg_name (i := 4) sc_law.nd rfl (Or.inr rfl)) (pgs_cons (pg_name (i := 5) sc_law.nd rfl (Or.inl rfl)) (pgs_cons (pg_name (i := 6) sc_law.nd rfl (Or.inl rfl)) pgs_nil)))))
      (pss_cons (ps_set (i := 7) sc_law.nd rfl (Or.inl rfl) (pe_lamcallD (k := 9) (by rfl) D_law_said_session.mg D_law_said_session.kp lkS hcdS bS sc_law_said rfl (.inl rfl) (gives_said EF) TBL rfl hT1 hT2 (hr.mono (by decide)) (lamD_by (by rfl)) (by rfl) (pe_int (i := 0)) rfl (fun _ _ _ _ _ _ _ => ⟨_, rfl, rfl⟩) (fun A outer s H E f c' hr2 => pe_callS G_read_program (hr2.mono (by decide)) (by rfl) D_read_program.mg D_read_program.kp D_read_program.b (fun σ => passAt (takes_of rfl rfl rfl rfl) σ) (pa_cons (pv 4) pa_nil))))
      (pss_cons (ps_if (PW.pt (pw_or (PW.pt (pw_and (pt_cmpR op_isN (pv 7) pe_non (nomark _)) (pw_and1 (pt_cmpR op_ne (pe_call G_write_program (hr.mono (by decide)) (by rfl) D_write_program.mg D_write_program.kp D_write_program.b .nil pass0 (pa_cons (pe_callS G_read_program (hr.mono (by decide)) (by rfl) D_read_program.mg D_read_program.kp D_read_program.b (fun σ => passAt (takes_of rfl rfl rfl rfl) σ) (pa_cons (pv 4) pa_nil)) pa_nil)) (pv 4) (nomark _))))) (pw_or1 (PW.pt (pw_and (pt_cmpR op_notN (pv 7) pe_non (nomark _)) (pw_and1 (pt_cmpR op_ne (pe_ix (ixT K) (pv 7) pe_int (fun _ _ => rfl)) (pv 5) (nomark _))))))))
      (pss_one (ps_ret pe_bl))
      pss_nil)
      (pss_cons (ps_set (i := 9) sc_law.nd rfl (Or.inl rfl) (pe_lst (pa_cons (pe_tup (pa_cons pe_str (pa_cons (pe_tup (pa_cons pe_int (pa_cons pe_int pa_nil))) pa_nil))) (pa_cons (pe_tup (pa_cons pe_str (pa_cons (pe_tup (pa_cons pe_int (pa_cons pe_int pa_nil))) pa_nil))) (pa_cons (pe_tup (pa_cons pe_str (pa_cons (pe_tup (pa_cons pe_int (pa_cons pe_int pa_nil))) pa_nil))) (pa_cons (pe_tup (pa_cons pe_str (pa_cons (pe_tup (pa_cons pe_int (pa_cons pe_int pa_nil))) pa_nil))) (pa_cons (pe_tup (pa_cons pe_str (pa_cons (pe_tup (pa_cons pe_int (pa_cons pe_int pa_nil))) pa_nil))) (pa_cons (pe_tup (pa_cons pe_str (pa_cons (pe_tup (pa_cons pe_int (pa_cons pe_int pa_nil))) pa_nil))) pa_nil))))))))
      (pss_cons (ps_set (i := 9) sc_law.nd rfl (Or.inl rfl) (pe_op op_cat (pv 9) (pe_lst (pa_cons (pe_tup (pa_cons pe_str (pa_cons (pe_tup (pa_cons pe_int (pa_cons pe_int pa_nil))) pa_nil))) (pa_cons (pe_tup (pa_cons pe_str (pa_cons (pe_tup (pa_cons pe_int (pa_cons pe_int pa_nil))) pa_nil))) (pa_cons (pe_tup (pa_cons pe_str (pa_cons (pe_tup (pa_cons pe_int (pa_cons pe_int pa_nil))) pa_nil))) (pa_cons (pe_tup (pa_cons pe_str (pa_cons (pe_tup (pa_cons pe_int (pa_cons pe_int pa_nil))) pa_nil))) pa_nil)))))))
      (pss_cons (ps_set (i := 9) sc_law.nd rfl (Or.inl rfl) (pe_op op_cat (pv 9) (pe_lst (pa_cons (pe_tup (pa_cons pe_str (pa_cons (pe_tup (pa_cons pe_int (pa_cons pe_int pa_nil))) pa_nil))) (pa_cons (pe_tup (pa_cons pe_str (pa_cons (pe_tup (pa_cons pe_int (pa_cons pe_int pa_nil))) pa_nil))) pa_nil)))))
      (pss_cons (ps_asg (pe_call G_law_pick (hr.mono (by decide)) (by rfl) D_law_pick.mg D_law_pick.kp D_law_pick.b .nil pass0 (pa_cons (pv 1) (pa_cons (pv 9) pa_nil))) (pg_tup (by rfl) (pgs_cons (pg_name (i := 10) sc_law.nd rfl (Or.inr rfl)) (pgs_cons (pg_name (i := 11) sc_law.nd rfl (Or.inl rfl)) pgs_nil))))
      (pss_cons (ps_if (pt_cmpR (neDK K hr.units) (pe_lamcallD (k := 9) (by rfl) D_law_said_session.mg D_law_said_session.kp lkS hcdS bS sc_law_said rfl (.inl rfl) (gives_said EF) TBL rfl hT1 hT2 (hr.mono (by decide)) (lamD_by (by rfl)) (by rfl) (pe_int (i := 0)) rfl (fun _ _ _ _ _ _ _ => ⟨_, rfl, rfl⟩) (fun A outer s H E f c' hr2 => pe_callS G_read_program (hr2.mono (by decide)) (by rfl) D_read_program.mg D_read_program.kp D_read_program.b (fun σ => passAt (takes_of rfl rfl rfl rfl) σ) (pa_cons (pv 10) pa_nil))) (pv 11) (nomark _))
      (pss_one (ps_ret pe_bl))
      pss_nil)
      (pss_one (ps_ret (pe_cmpR op_eq (pe_lamcallD (k := 9) (by rfl) D_law_said_session.mg D_law_said_session.kp lkS hcdS bS sc_law_said rfl (.inl rfl) (gives_said EF) TBL rfl hT1 hT2 (hr.mono (by decide)) (lamD_by (by rfl)) (by rfl) (pe_int (i := 0)) rfl (fun _ _ _ _ _ _ _ => ⟨_, rfl, rfl⟩) (fun A outer s H E f c' hr2 => pe_callS G_read_programX (hr2.mono (by decide)) (by rfl) D_read_program.mg D_read_program.kp D_read_program.b (fun σ => passAt (takes_of rfl rfl rfl rfl) σ) (pa_cons pe_int pa_nil))) pe_str (nomark _)))))))))))))))))))))))))))))))))))), ?_⟩
  -- the row of draws
  refine ⟨_, rfl, ?_⟩
  refine ⟨by show 4 ≤ sizeLine; decide, fun b hb => ?_⟩
  dsimp only
  have Gb : Gd T P (upd H b (.lst [.ref aa, .int 0, .int 7611, .int 0])) := g.mono (Ex.new (K := K) hb)
  have Rb : Rp K (upd H b (.lst [.ref aa, .int 0, .int 7611, .int 0])) (.row b aa ns) (.ref b) := ⟨rfl, 0, 7611, 0, upd_same, sl_upd hb hs, by omega, by omega, by omega, by omega⟩
  generalize upd H b (.lst [.ref aa, .int 0, .int 7611, .int 0]) = W at Gb Rb
  generalize hr0 : (⟨b, aa, ns⟩ : Dw) = r0
  have er0 : D.row b aa ns = r0.d := by rw [← hr0]
  rw [er0] at Rb
  have s1 : SS K T P W W W W W [.no, .d r0.d, .no, .no, .no, .no, .no, .no, .no, .no, .no, .no, .no, .no, .no] ((L2.start ["_law_script", "_law_row_here", "_law_machine_here", "_law_text", "_law_bent_here", "_law_at", "_law_place", "_law_told", "_law_start", "_law_cases", "_law_case", "_law_due", "_law_program_here", "_law_one", "_law_part"] [V.ref aa]).set 1 (some (V.ref b))) :=
    ⟨Vv.start (Ex.refl W), ⟨⟨trivial, ⟨_, rfl, Rb⟩, trivial, trivial, trivial, trivial, trivial, trivial, trivial, trivial, trivial, trivial, trivial, trivial, trivial, trivial⟩, Gb, Ex.refl W⟩⟩
  -- the machine and its text
  refine s_asg (e_call r0 (a_cons (e_var rfl) (a_3 (e_lst (a_cons e_int (a_3 e_int e_int e_int))) e_int e_int)) trivial) s1 fun d v2 W2 H2 hd z2 s2 => ?_
  obtain ⟨m, rfl, mok⟩ := hd
  try dsimp only
  refine s_asg1 (d := .str (macText m)) (e_call m (a_1 (e_var rfl)) mok) s2 fun v3 W3 H3 z3 s3 => ?_
  try dsimp only
  have tok := txt_mac mok
  have alM := alike_mac mok
  have s3 : SS K T P W W W W3 H3 [.no, .d r0.d, .d m.d, .d (.str (macText m)), .no, .no, .no, .no, .no, .no, .no, .no, .no, .no, .no] _ := s3
  have rd1 : ∀ {δ : List Sl}, δ[1]? = some (.d r0.d) → δ[3]? = some (.d (.str (macText m))) → E K T P W (tCallS (sp_rmach K T P C) (fun σ => WE (fun cls d σ H => XE cls d H) σ) (tCons (tCall (sp_loose K T P) [] (fun _ _ _ => False) (tCons (tVar 1) (tCons (tVar 3) tNil))) tNil)) δ (fun d => d = m.d) := fun {δ} h1 h3 => by
    refine ee_callX (A := fun ds => ∃ fs, Loose (Txt.split (macText m) "\n") fs ∧ ds = [.str (Txt.join "\n" fs)]) ((aaN (e_call (r0, macText m) (a_2 (e_var h1) (e_var h3)) tok) a_nil).imp ?_) ?_
    · rintro ds ⟨_, _, rfl, ⟨fs, hfs, rfl⟩, rfl⟩
      exact ⟨fs, hfs, rfl⟩
    · rintro ds ⟨fs, hfs, rfl⟩
      have hm := m_read mok hfs
      refine ⟨Txt.join "\n" fs, rfl, loose_size tok hfs, fun d hd => ?_, fun l p dx H' σ he _ _ => ?_⟩
      · obtain ⟨q, hq, rfl⟩ := hd
        rw [hm] at hq
        cases hq
        rfl
      · obtain ⟨a, b, hq, _⟩ := he
        rw [hm] at hq
        cases hq
  refine s_if1 (k := false) (t_or1 (k := false) (l := false) ((t_t (e_op (e_call m (a_1 (e_var rfl)) mok) (e_var rfl) o_neS)).is (by rw [decide_eq_true rfl]; rfl)) fun _ => t_not1 (k := true) (t_b (e_call m.d (a_2 (rd1 rfl rfl) (e_var rfl)) alM))) s3 (fun hb => absurd hb (by decide)) fun _ H4 e4 s4 => ?_
  try unfold tNext
  try dsimp only
  -- the bent text
  refine s_tgt (vs := [4, 5, 6]) (δ' := fun d => [.no, .d r0.d, .d m.d, .d (.str (macText m)), .d (getT d 0), .d (getT d 1), .d (getT d 2), .no, .no, .no, .no, .no, .no, .no, .no]) (e_call (r0, macText m, bentM) (a_3 (e_var rfl) (e_var rfl) (e_lst (ds := bentM.map .str) (a_cons e_str (a_cons e_str (a_cons e_str (a_cons e_str (a_cons e_str (a_cons e_str (a_3 e_str e_str e_str))))))))) ⟨tok, by show 0 < 9; omega, by show 9 < 100; omega, fun x hx => (bentM_ok hx).1⟩) s4 (fun d hd => ?_) fun d σ5 W5 H5 hd z5 s5 => ?_
  · obtain ⟨a, p, x, _, _, _, rfl⟩ := hd
    exact tg_3
  obtain ⟨a, p, x, hx, ha, hp, rfl⟩ := hd
  obtain ⟨hx14, hxg⟩ := bentM_ok hx
  have bsz := bent_size tok hx14 (a := a) (p := p)
  have bok := fun m' => m_bent (m' := m') mok (p := p) hxg ha bsz
  generalize bentT (Txt.split (macText m) "\n") a p x = bt at s5 bsz bok
  have s5 : SS K T P W W W W5 H5 [.no, .d r0.d, .d m.d, .d (.str (macText m)), .d (.str bt), .d (.int ((a : Int) + 1)), .d (.int ((p : Int) + 1)), .no, .no, .no, .no, .no, .no, .no, .no] σ5 := s5
  try dsimp only
  refine s_asg1 (d := toldD (machR bt)) (e_said hT1 bsz (a_1 (e_var rfl))) s5 fun v6 W6 H6 z6 s6 => ?_
  try dsimp only
  have s6 : SS K T P W W W W6 H6 [.no, .d r0.d, .d m.d, .d (.str (macText m)), .d (.str bt), .d (.int ((a : Int) + 1)), .d (.int ((p : Int) + 1)), .d (toldD (machR bt)), .no, .no, .no, .no, .no, .no, .no] _ := s6
  have tN : ∀ {α : Type} (r : Except (Nat × Nat) α), isN (toldD r) = (match r with | .ok _ => true | .error _ => false) := fun {α} r => by cases r <;> rfl
  refine s_if1 (k := false) (Et1.is (t_and1 (l := false) (t_t (e_op (e_var rfl) e_non o_isN)) fun hn => ?_) (Bool.and_false _)) s6 (fun hb => absurd hb (by decide)) fun _ H7 e7 s7 => ?_
  · rw [tN] at hn
    cases hm : machR bt with
    | error z =>
      rw [hm] at hn
      cases hn
    | ok m' =>
      obtain ⟨mok', hmt⟩ := bok m' hm
      have rd2 : ∀ {δ : List Sl}, δ[4]? = some (.d (.str bt)) → E K T P W (tCallS (sp_rmach K T P C) (fun σ => WE (fun cls d σ H => XE cls d H) σ) (tCons (tVar 4) tNil)) δ (fun d => d = m'.d) := fun {δ} h4 => by
        refine ee_callX (a_1 (e_var h4)) fun ds hds => ⟨bt, hds, bsz, fun d hd => ?_, fun l p dx H' σ he _ _ => ?_⟩
        · obtain ⟨q, hq, rfl⟩ := hd
          rw [hm] at hq
          cases hq
          rfl
        · obtain ⟨a, b, hq, _⟩ := he
          rw [hm] at hq
          cases hq
      refine (t_t (e_op (e_call m' (a_1 (rd2 rfl)) mok') (e_var rfl) o_neS)).is ?_
      rw [hmt, decide_eq_true rfl]
      rfl
  try unfold tNext
  try dsimp only
  generalize toldD (machR bt) = td1 at s7
  -- the cases
  refine s_asg1 (d := .str startM) e_str s7 fun v8 W8 H8 z8 s8 => ?_
  try dsimp only
  refine s_asgL (A := fun l => l = casesM1.map caseD) (el_lst (ds := casesM1.map caseD) (a_cons (e_case e_str) (a_cons (e_case e_str) (a_3 (e_case e_str) (e_case e_str) (e_case e_str)))) (rowD_case _) (by decide)) s8 fun ds q1 W9 H9 hA v9 s9 o9 hq9 => ?_
  subst hA
  try dsimp only
  have ea2 : (casesM1).map caseD ++ [caseD ("prime", 1, 2)] = (casesM1 ++ casesM2).map caseD := by
    rw [List.map_append]
    rfl
  refine s_app (n := 9) rfl o9 (A := fun d => d = caseD ("prime", 1, 2)) (e_case e_str) s9 (by decide) (fun d hd => by rw [hd, ea2]; exact rowD_case _) fun d Wa2 Ha2 hd za2 xs2 sa2 oa2 => ?_
  subst hd
  rw [ea2] at oa2
  try dsimp only
  obtain ⟨Wr2, sr2, er2, _⟩ := sa2.release (n := 9) oa2 rfl
  have ec3 : (casesM1 ++ casesM2).map caseD ++ casesM3.map caseD = (casesM1 ++ casesM2 ++ casesM3).map caseD := List.map_append.symm
  refine s_asgL (A := fun l => l = (casesM1 ++ casesM2 ++ casesM3).map caseD) (El.imp (el_cat (l := (casesM1 ++ casesM2).map caseD) (m := casesM3.map caseD) (e_var rfl) (e_lst (ds := casesM3.map caseD) (a_cons (e_case e_str) (a_cons (e_case e_str) a_nil)) (rowD_case _) (by decide)) (by decide) (by rw [ec3]; exact rowD_case _)) fun l hl => by rw [hl, ec3]) sr2 fun ds qc3 Wc3 Hc3 hA vc3 sc3 oc3 _ => ?_
  subst hA
  try dsimp only
  have ea4 : (casesM1 ++ casesM2 ++ casesM3).map caseD ++ [caseD ("prime 2\nstir 1 0", 2, 1)] = (casesM1 ++ casesM2 ++ casesM3 ++ casesM4).map caseD := by
    rw [List.map_append]
    rfl
  refine s_app (n := 9) rfl oc3 (A := fun d => d = caseD ("prime 2\nstir 1 0", 2, 1)) (e_case e_str) sc3 (by decide) (fun d hd => by rw [hd, ea4]; exact rowD_case _) fun d Wa4 Ha4 hd za4 xs4 sa4 oa4 => ?_
  subst hd
  rw [ea4] at oa4
  try dsimp only
  obtain ⟨Wr4, sr4, er4, _⟩ := sa4.release (n := 9) oa4 rfl
  have ec5 : (casesM1 ++ casesM2 ++ casesM3 ++ casesM4).map caseD ++ casesM5.map caseD = (casesM1 ++ casesM2 ++ casesM3 ++ casesM4 ++ casesM5).map caseD := List.map_append.symm
  refine s_asgL (A := fun l => l = (casesM1 ++ casesM2 ++ casesM3 ++ casesM4 ++ casesM5).map caseD) (El.imp (el_cat (l := (casesM1 ++ casesM2 ++ casesM3 ++ casesM4).map caseD) (m := casesM5.map caseD) (e_var rfl) (e_lst (ds := casesM5.map caseD) (a_cons (e_case (e_op (e_var rfl) e_str (o_catS (by decide +kernel)))) (a_cons (e_case (e_op (e_var rfl) e_str (o_catS (by decide +kernel)))) (a_cons (e_case (e_op (e_var rfl) e_str (o_catS (by decide +kernel)))) a_nil))) (rowD_case _) (by decide)) (by decide) (by rw [ec5]; exact rowD_case _)) fun l hl => by rw [hl, ec5]) sr4 fun ds qc5 Wc5 Hc5 hA vc5 sc5 oc5 _ => ?_
  subst hA
  try dsimp only
  have ea6 : (casesM1 ++ casesM2 ++ casesM3 ++ casesM4 ++ casesM5).map caseD ++ [caseD (startM ++ "stir 1 1", 4, 1)] = (casesM1 ++ casesM2 ++ casesM3 ++ casesM4 ++ casesM5 ++ casesM6).map caseD := by
    rw [List.map_append]
    rfl
  refine s_app (n := 9) rfl oc5 (A := fun d => d = caseD (startM ++ "stir 1 1", 4, 1)) (e_case (e_op (e_var rfl) e_str (o_catS (by decide +kernel)))) sc5 (by decide) (fun d hd => by rw [hd, ea6]; exact rowD_case _) fun d Wa6 Ha6 hd za6 xs6 sa6 oa6 => ?_
  subst hd
  rw [ea6] at oa6
  try dsimp only
  obtain ⟨Wr6, sr6, er6, _⟩ := sa6.release (n := 9) oa6 rfl
  have ec7 : (casesM1 ++ casesM2 ++ casesM3 ++ casesM4 ++ casesM5 ++ casesM6).map caseD ++ casesM7.map caseD = (casesM1 ++ casesM2 ++ casesM3 ++ casesM4 ++ casesM5 ++ casesM6 ++ casesM7).map caseD := List.map_append.symm
  refine s_asgL (A := fun l => l = (casesM1 ++ casesM2 ++ casesM3 ++ casesM4 ++ casesM5 ++ casesM6 ++ casesM7).map caseD) (El.imp (el_cat (l := (casesM1 ++ casesM2 ++ casesM3 ++ casesM4 ++ casesM5 ++ casesM6).map caseD) (m := casesM7.map caseD) (e_var rfl) (e_lst (ds := casesM7.map caseD) (a_cons (e_case (e_op (e_var rfl) e_str (o_catS (by decide +kernel)))) (a_cons (e_case (e_op (e_var rfl) e_str (o_catS (by decide +kernel)))) a_nil)) (rowD_case _) (by decide)) (by decide) (by rw [ec7]; exact rowD_case _)) fun l hl => by rw [hl, ec7]) sr6 fun ds qc7 Wc7 Hc7 hA vc7 sc7 oc7 _ => ?_
  subst hA
  try dsimp only
  have ea8 : (casesM1 ++ casesM2 ++ casesM3 ++ casesM4 ++ casesM5 ++ casesM6 ++ casesM7).map caseD ++ [caseD (startM ++ "write 0 1\nsee 1 0\nwrite 1 1", 6, 1)] = (casesM1 ++ casesM2 ++ casesM3 ++ casesM4 ++ casesM5 ++ casesM6 ++ casesM7 ++ casesM8).map caseD := by
    rw [List.map_append]
    rfl
  refine s_app (n := 9) rfl oc7 (A := fun d => d = caseD (startM ++ "write 0 1\nsee 1 0\nwrite 1 1", 6, 1)) (e_case (e_op (e_var rfl) e_str (o_catS (by decide +kernel)))) sc7 (by decide) (fun d hd => by rw [hd, ea8]; exact rowD_case _) fun d Wa8 Ha8 hd za8 xs8 sa8 oa8 => ?_
  subst hd
  rw [ea8] at oa8
  try dsimp only
  obtain ⟨Wr8, sr8, er8, _⟩ := sa8.release (n := 9) oa8 rfl
  have ec9 : (casesM1 ++ casesM2 ++ casesM3 ++ casesM4 ++ casesM5 ++ casesM6 ++ casesM7 ++ casesM8).map caseD ++ casesM9.map caseD = (casesM1 ++ casesM2 ++ casesM3 ++ casesM4 ++ casesM5 ++ casesM6 ++ casesM7 ++ casesM8 ++ casesM9).map caseD := List.map_append.symm
  refine s_asgL (A := fun l => l = (casesM1 ++ casesM2 ++ casesM3 ++ casesM4 ++ casesM5 ++ casesM6 ++ casesM7 ++ casesM8 ++ casesM9).map caseD) (El.imp (el_cat (l := (casesM1 ++ casesM2 ++ casesM3 ++ casesM4 ++ casesM5 ++ casesM6 ++ casesM7 ++ casesM8).map caseD) (m := casesM9.map caseD) (e_var rfl) (e_lst (ds := casesM9.map caseD) (a_cons (e_case (e_op (e_var rfl) (e_join (ys := List.replicate 5 ("write 1 1" : Str)) e_str (E1.is (e_op (e_lst (ds := [.str "write 1 1"]) (a_1 e_str)) (e_int (i := ((5 : Nat) : Int))) (o_rep (by decide) (by decide) rfl)) rfl) (by decide +kernel)) (o_catS (by decide +kernel)))) (a_cons (e_case e_str) a_nil)) (rowD_case _) (by decide)) (by decide) (by rw [ec9]; exact rowD_case _)) fun l hl => by rw [hl, ec9]) sr8 fun ds qc9 Wc9 Hc9 hA vc9 sc9 oc9 _ => ?_
  subst hA
  try dsimp only
  -- one of the cases
  obtain ⟨W11, s11, e11, _⟩ := sc9.release (n := 9) oc9 rfl
  refine s_tgt (A := fun d => ∃ x ∈ casesM, d = caseD x) (vs := [10, 11]) (δ' := fun d => [.no, .d r0.d, .d m.d, .d (.str (macText m)), .d (.str bt), .d (.int ((a : Int) + 1)), .d (.int ((p : Int) + 1)), .d td1, .d (.str startM), .d (.lst (casesM.map caseD)), .d (getT d 0), .d (getT d 1), .no, .no, .no]) ((e_call (r0, casesM.map caseD) (a_2 (e_var rfl) (e_var rfl)) ⟨by show 0 < (casesM.map caseD).length; decide, by show (casesM.map caseD).length < 100000; decide⟩).imp fun d hd => ?_) s11 (fun d hd => ?_) fun d σ12 W12 H12 hd z12 s12 => ?_
  · have hd : d ∈ casesM.map caseD := hd
    obtain ⟨x, h1, h2⟩ := List.mem_map.mp hd
    exact ⟨x, h1, h2.symm⟩
  · obtain ⟨x, _, rfl⟩ := hd
    exact tg_pair
  obtain ⟨x1, hx1, rfl⟩ := hd
  obtain ⟨cs1, cm1⟩ := casesM_ok hx1
  have s12 : SS K T P W W W W12 H12 [.no, .d r0.d, .d m.d, .d (.str (macText m)), .d (.str bt), .d (.int ((a : Int) + 1)), .d (.int ((p : Int) + 1)), .d td1, .d (.str startM), .d (.lst (casesM.map caseD)), .d (.str x1.1), .d (.tup [.int (x1.2.1 : Int), .int (x1.2.2 : Int)]), .no, .no, .no] σ12 := s12
  try dsimp only
  have eqv_pair : ∀ i j : Nat, (!PyData.eqv (pdD (.tup [.int (i : Int), .int (j : Int)])) (pdD (.tup [.int (i : Int), .int (j : Int)]))) = false := fun i j => by
    show (!(((i : Int) == (i : Int)) && (((j : Int) == (j : Int)) && true))) = false
    rw [beq_self_eq_true, beq_self_eq_true]
    rfl
  refine s_if1 (k := false) ((t_t (e_op (a := .tup [.int (x1.2.1 : Int), .int (x1.2.2 : Int)]) (b := .tup [.int (x1.2.1 : Int), .int (x1.2.2 : Int)]) (E1.is (e_said hT1 cs1 (a_1 (e_var rfl))) (by rw [cm1]; rfl)) (e_var rfl) (o_neD rfl rfl rfl rfl))).is (eqv_pair _ _)) s12 (fun hb => absurd hb (by decide)) fun _ H13 e13 s13 => ?_
  try unfold tNext
  try dsimp only
  refine s_if1 (k := false) ((t_t (e_op (a := .str "string") (b := .str "string") (e_saidB (bd := .non) hT1 trivial (a_1 e_non)) e_str o_neS)).is (by rw [decide_eq_true rfl]; rfl)) s13 (fun hb => absurd hb (by decide)) fun _ H14 e14 s14 => ?_
  try unfold tNext
  try dsimp only
  -- the kept program and its text
  refine s_asg (ee_call (A := fun ds => ∃ l : List Ins, ds = [r0.d, m.d, progT l] ∧ 1 ≤ l.length ∧ l.length ≤ 7 ∧ ProgOk l) (C := fun d => ∃ l : List Ins, d = progT l ∧ 1 ≤ l.length ∧ l.length ≤ 21 ∧ ProgOk l) ((aaN (e_var rfl) (aaN (e_var rfl) (aaN (e_call (r0, m.p) (a_cons (e_var rfl) (a_3 (e_op (a := m.d) (e_var rfl) e_int (o_ixT rfl)) e_int e_int)) mok.pr) a_nil))).imp ?_) ?_) s14 fun d v15 W15 H15 hd z15 s15 => ?_
  · rintro ds ⟨_, _, rfl, rfl, _, _, rfl, rfl, _, _, rfl, ⟨l, rfl, h1, h2, h3⟩, rfl⟩
    exact ⟨l, rfl, h1, h2, h3⟩
  · rintro ds ⟨l, rfl, h1, h2, h3⟩
    exact ⟨(r0, m, l), rfl, ⟨mok, h1, h2, h3⟩, fun d hd => hd⟩
  obtain ⟨l, rfl, hl1, hl21, lok⟩ := hd
  try dsimp only
  refine s_asg1 (d := .str (progText l)) (e_call l (a_1 (e_var rfl)) ⟨hl1, by show l.length ≤ 6000; omega, lok⟩) s15 fun v16 W16 H16 z16 s16 => ?_
  try dsimp only
  have s16 : SS K T P W W W W16 H16 [.no, .d r0.d, .d m.d, .d (.str (progText l)), .d (.str bt), .d (.int ((a : Int) + 1)), .d (.int ((p : Int) + 1)), .d td1, .d (.str startM), .d (.lst (casesM.map caseD)), .d (.str x1.1), .d (.tup [.int (x1.2.1 : Int), .int (x1.2.2 : Int)]), .d (progT l), .no, .no] _ := s16
  have ptok := txt_prog hl1 hl21 lok
  have h6000 : l.length ≤ 6000 := by omega
  have ll : (l.map Ins.d).length = l.length := len_map ..
  refine s_if1 (k := false) ((t_t (e_op (a := .str (progText l)) (b := .str (progText l)) (e_var rfl) ?_ o_neS)).is (by rw [decide_eq_true rfl]; rfl)) s16 (fun hb => absurd hb (by decide)) fun _ H17 e17 s17 => ?_
  · have ht : ∀ x ∈ l.map insTxt, x.length ≤ 12 := fun x hx => by
      obtain ⟨i, hi, rfl⟩ := List.mem_map.mp hx
      exact insTxt_le h6000 (lok i hi)
    refine e_join (ys := l.map insTxt) e_str (El.e1 ?_) (join_fit ht (by rw [len_map, one_nl]; omega))
    have hm : (l.map insTxt).map D.str = (List.range (l.map Ins.d).length).map (fun i => D.str (insTxt (l.getD i (.z .say)))) := by
      rw [ll, List.map_map]
      apply List.ext_getElem
      · simp
      · intro i h1 h2
        have hi1 : i < l.length := by simpa using h1
        have z : l.getD i (.z .say) = l[i] := by
          rw [List.getD_eq_getElem?_getD, List.getElem?_eq_getElem hi1]
          rfl
        simp only [List.getElem_map, List.getElem_range, Function.comp]
        rw [z]
    rw [hm]
    refine el_lcM (vs := [13]) (δ' := fun i => [.no, .d r0.d, .d m.d, .d (.str (progText l)), .d (.str bt), .d (.int ((a : Int) + 1)), .d (.int ((p : Int) + 1)), .d td1, .d (.str startM), .d (.lst (casesM.map caseD)), .d (.str x1.1), .d (.tup [.int (x1.2.1 : Int), .int (x1.2.2 : Int)]), .d (progT l), .d (l.getD i (.z .say)).d, .no]) (io_tup (e_var rfl)) (fun i hi => ?_) (by rw [ll]; omega) (fun i _ => rowD_nints fun d hd => ?_) fun i hi => ?_
    · rw [ll] at hi
      have z : l.getD i (.z .say) = l[i] := by
        rw [List.getD_eq_getElem?_getD, List.getElem?_eq_getElem hi]
        rfl
      rw [getD_ins hi, ← z]
      exact tg_name
    · obtain ⟨_, _, rfl⟩ := List.mem_map.mp hd
      rfl
    · rw [ll] at hi
      have hio := lok _ (getD_mem (d := .z .say) hi)
      generalize l.getD i (.z .say) = one at hio
      have hw := insWs_le h6000 hio
      refine e_join (ys := insWs one) e_str (El.e1 ?_) (join_fit hw.1 (by rw [one_sp]; omega))
      have hm2 : (insWs one).map D.str = (List.range one.ps.length).map (fun i => D.str ((insWs one).getD i Str.empty)) := by
        cases one <;> rfl
      rw [hm2]
      have lp : one.ps.length = (insWs one).length := by cases one <;> rfl
      refine el_lcM (vs := [14]) (δ' := fun j => [.no, .d r0.d, .d m.d, .d (.str (progText l)), .d (.str bt), .d (.int ((a : Int) + 1)), .d (.int ((p : Int) + 1)), .d td1, .d (.str startM), .d (.lst (casesM.map caseD)), .d (.str x1.1), .d (.tup [.int (x1.2.1 : Int), .int (x1.2.2 : Int)]), .d (progT l), .d one.d, .d (one.ps.getD j .non)]) (io_tup (e_var (by rw [← ins_ps]; rfl))) (fun j hj => tg_name) (by omega) (fun j _ => rowD_nints fun d hd => ?_) fun j hj => ?_
      · obtain ⟨_, _, rfl⟩ := List.mem_map.mp hd
        rfl
      · cases one with
        | z o =>
          have hj1 : j < 1 := hj
          have hj0 : j = 0 := by omega
          subst hj0
          exact e_cb (a_1 (e_var rfl)) c_strAS
        | u o n =>
          have hj1 : j < 2 := hj
          obtain ⟨n0, n1⟩ := hio
          have n2 := top_le o h6000
          rcases (by omega : j = 0 ∨ j = 1) with rfl | rfl
          · exact e_cb (a_1 (e_var rfl)) c_strAS
          · exact e_cb (a_1 (e_var rfl)) (c_strAI (log_small n0 (by omega)))
  try unfold tNext
  try dsimp only
  have rp1 : ∀ {δ : List Sl}, δ[1]? = some (.d r0.d) → δ[3]? = some (.d (.str (progText l))) → E K T P W (tCallS (sp_rprog K T P C) (fun σ => WE (fun cls d σ H => XE cls d H) σ) (tCons (tCall (sp_loose K T P) [] (fun _ _ _ => False) (tCons (tVar 1) (tCons (tVar 3) tNil))) tNil)) δ (fun d => d = progT l) := fun {δ} h1 h3 => by
    refine ee_callX (A := fun ds => ∃ fs, Loose (Txt.split (progText l) "\n") fs ∧ ds = [.str (Txt.join "\n" fs)]) ((aaN (e_call (r0, progText l) (a_2 (e_var h1) (e_var h3)) ptok) a_nil).imp ?_) ?_
    · rintro ds ⟨_, _, rfl, ⟨fs, hfs, rfl⟩, rfl⟩
      exact ⟨fs, hfs, rfl⟩
    · rintro ds ⟨fs, hfs, rfl⟩
      have hm := p_read hl1 h6000 lok hfs
      refine ⟨Txt.join "\n" fs, rfl, loose_size ptok hfs, fun d hd => ?_, fun l p dx H' σ he _ _ => ?_⟩
      · obtain ⟨q, hq, rfl⟩ := hd
        rw [hm] at hq
        cases hq
        rfl
      · obtain ⟨a, b, hq, _⟩ := he
        rw [hm] at hq
        cases hq
  refine s_if1 (k := false) (t_not1 (k := true) (t_b (e_call (progT l) (a_2 (rp1 rfl rfl) (e_var rfl)) (alike_prog (by omega))))) s17 (fun hb => absurd hb (by decide)) fun _ H18 e18 s18 => ?_
  try unfold tNext
  try dsimp only
  -- the bent program
  refine s_tgt (vs := [4, 5, 6]) (δ' := fun d => [.no, .d r0.d, .d m.d, .d (.str (progText l)), .d (getT d 0), .d (getT d 1), .d (getT d 2), .d td1, .d (.str startM), .d (.lst (casesM.map caseD)), .d (.str x1.1), .d (.tup [.int (x1.2.1 : Int), .int (x1.2.2 : Int)]), .d (progT l), .no, .no]) (e_call (r0, progText l, bentP) (a_3 (e_var rfl) (e_var rfl) (e_lst (ds := bentP.map .str) (a_cons e_str (a_cons e_str (a_cons e_str (a_cons e_str (a_cons e_str (a_cons e_str (a_cons e_str (a_cons e_str (a_3 e_str e_str e_str))))))))))) ⟨ptok, by show 0 < 11; omega, by show 11 < 100; omega, fun x hx => (bentP_ok hx).1⟩) s18 (fun d hd => ?_) fun d σ19 W19 H19 hd z19 s19 => ?_
  · obtain ⟨a, p, x, _, _, _, rfl⟩ := hd
    exact tg_3
  obtain ⟨a2, p2, x2, hx2, ha2, hp2, rfl⟩ := hd
  obtain ⟨hx214, hx2g⟩ := bentP_ok hx2
  have bsz2 := bent_size ptok hx214 (a := a2) (p := p2)
  obtain ⟨pok, perr⟩ := p_bent hl1 h6000 lok (p := p2) hx2g ha2
  generalize bentT (Txt.split (progText l) "\n") a2 p2 x2 = bt2 at s19 bsz2 pok perr
  have s19 : SS K T P W W W W19 H19 [.no, .d r0.d, .d m.d, .d (.str (progText l)), .d (.str bt2), .d (.int ((a2 : Int) + 1)), .d (.int ((p2 : Int) + 1)), .d td1, .d (.str startM), .d (.lst (casesM.map caseD)), .d (.str x1.1), .d (.tup [.int (x1.2.1 : Int), .int (x1.2.2 : Int)]), .d (progT l), .no, .no] σ19 := s19
  try dsimp only
  refine s_asg1 (d := toldD (progR bt2)) (e_said hT1 bsz2 (a_1 (e_var rfl))) s19 fun v20 W20 H20 z20 s20 => ?_
  try dsimp only
  have s20 : SS K T P W W W W20 H20 [.no, .d r0.d, .d m.d, .d (.str (progText l)), .d (.str bt2), .d (.int ((a2 : Int) + 1)), .d (.int ((p2 : Int) + 1)), .d (toldD (progR bt2)), .d (.str startM), .d (.lst (casesM.map caseD)), .d (.str x1.1), .d (.tup [.int (x1.2.1 : Int), .int (x1.2.2 : Int)]), .d (progT l), .no, .no] _ := s20
  refine s_if1 (k := false) (Et1.is (t_or1 (k := false) (l := false) (Et1.is (t_and1 (l := false) (t_t (e_op (e_var rfl) e_non o_isN)) fun hn => ?_) (Bool.and_false _)) fun _ => Et1.is (t_and1 (l := false) (t_t (e_op (e_var rfl) e_non o_notN)) fun hn => ?_) (Bool.and_false _)) rfl) s20 (fun hb => absurd hb (by decide)) fun _ H21 e21 s21 => ?_
  · rw [tN] at hn
    cases hm : progR bt2 with
    | error z =>
      rw [hm] at hn
      cases hn
    | ok l' =>
      obtain ⟨pok', hmt⟩ := pok l' hm
      have rp2 : ∀ {δ : List Sl}, δ[4]? = some (.d (.str bt2)) → E K T P W (tCallS (sp_rprog K T P C) (fun σ => WE (fun cls d σ H => XE cls d H) σ) (tCons (tVar 4) tNil)) δ (fun d => d = progT l') := fun {δ} h4 => by
        refine ee_callX (a_1 (e_var h4)) fun ds hds => ⟨bt2, hds, bsz2, fun d hd => ?_, fun l p dx H' σ he _ _ => ?_⟩
        · obtain ⟨q, hq, rfl⟩ := hd
          rw [hm] at hq
          cases hq
          rfl
        · obtain ⟨a, b, hq, _⟩ := he
          rw [hm] at hq
          cases hq
      refine (t_t (e_op (e_call l' (a_1 (rp2 rfl)) pok') (e_var rfl) o_neS)).is ?_
      rw [hmt, decide_eq_true rfl]
      rfl
  · rw [tN] at hn
    cases hm : progR bt2 with
    | ok l' =>
      rw [hm] at hn
      cases hn
    | error z =>
      have hz := perr z.1 z.2 (by rw [hm])
      have e7 : ∀ {δ : List Sl}, δ[7]? = some (.d (toldD (Except.error z : Except (Nat × Nat) (List Ins)))) → E1 K T P W (tVar 7) δ (.tup [.int (z.1 : Int), .int (z.2 : Int)]) := fun {δ} h => e_var h
      refine (t_t (e_op (e_op (a := .tup [.int (z.1 : Int), .int (z.2 : Int)]) (e7 rfl) e_int (o_ixT rfl)) (e_var rfl) o_neI)).is ?_
      rw [decide_eq_true (by rw [hz]; rfl)]
      rfl
  try unfold tNext
  try dsimp only
  generalize toldD (progR bt2) = td2 at s21
  -- the cases
  refine s_asg1 (d := .lst (casesP1.map caseD)) (e_lst (ds := casesP1.map caseD) (a_cons (e_case e_str) (a_cons (e_case e_str) (a_cons (e_case e_str) (a_3 (e_case e_str) (e_case e_str) (e_case e_str))))) (rowD_case _) (by decide)) s21 fun v22 W22 H22 z22 s22 => ?_
  try dsimp only
  have ep2 : casesP1.map caseD ++ casesP2.map caseD = (casesP1 ++ casesP2).map caseD := List.map_append.symm
  refine s_asg1 (d := .lst ((casesP1 ++ casesP2).map caseD)) (E1.is (e_op (a := .lst (casesP1.map caseD)) (b := .lst (casesP2.map caseD)) (e_var rfl) (e_lst (ds := casesP2.map caseD) (a_cons (e_case e_str) (a_3 (e_case e_str) (e_case e_str) (e_case e_str))) (rowD_case _) (by decide)) (o_cat (by decide) (by rw [ep2]; exact rowD_case _))) (by rw [ep2])) s22 fun v23 W23 H23 z23 s23 => ?_
  try dsimp only
  have ep3 : (casesP1 ++ casesP2).map caseD ++ casesP3.map caseD = casesP.map caseD := List.map_append.symm
  refine s_asg1 (d := .lst (casesP.map caseD)) (E1.is (e_op (a := .lst ((casesP1 ++ casesP2).map caseD)) (b := .lst (casesP3.map caseD)) (e_var rfl) (e_lst (ds := casesP3.map caseD) (a_2 (e_case e_str) (e_case e_str)) (rowD_case _) (by decide)) (o_cat (by decide) (by rw [ep3]; exact rowD_case _))) (by rw [ep3])) s23 fun v24 W24 H24 z24 s24 => ?_
  try dsimp only
  refine s_tgt (A := fun d => ∃ x ∈ casesP, d = caseD x) (vs := [10, 11]) (δ' := fun d => [.no, .d r0.d, .d m.d, .d (.str (progText l)), .d (.str bt2), .d (.int ((a2 : Int) + 1)), .d (.int ((p2 : Int) + 1)), .d td2, .d (.str startM), .d (.lst (casesP.map caseD)), .d (getT d 0), .d (getT d 1), .d (progT l), .no, .no]) ((e_call (r0, casesP.map caseD) (a_2 (e_var rfl) (e_var rfl)) ⟨by show 0 < (casesP.map caseD).length; decide, by show (casesP.map caseD).length < 100000; decide⟩).imp fun d hd => ?_) s24 (fun d hd => ?_) fun d σ25 W25 H25 hd z25 s25 => ?_
  · have hd : d ∈ casesP.map caseD := hd
    obtain ⟨x, h1, h2⟩ := List.mem_map.mp hd
    exact ⟨x, h1, h2.symm⟩
  · obtain ⟨x, _, rfl⟩ := hd
    exact tg_pair
  obtain ⟨x3, hx3, rfl⟩ := hd
  obtain ⟨cs3, cm3⟩ := casesP_ok hx3
  have s25 : SS K T P W W W W25 H25 [.no, .d r0.d, .d m.d, .d (.str (progText l)), .d (.str bt2), .d (.int ((a2 : Int) + 1)), .d (.int ((p2 : Int) + 1)), .d td2, .d (.str startM), .d (.lst (casesP.map caseD)), .d (.str x3.1), .d (.tup [.int (x3.2.1 : Int), .int (x3.2.2 : Int)]), .d (progT l), .no, .no] σ25 := s25
  try dsimp only
  refine s_if1 (k := false) ((t_t (e_op (a := .tup [.int (x3.2.1 : Int), .int (x3.2.2 : Int)]) (b := .tup [.int (x3.2.1 : Int), .int (x3.2.2 : Int)]) (E1.is (e_said hT1 cs3 (a_1 (e_var rfl))) (by rw [cm3]; rfl)) (e_var rfl) (o_neD rfl rfl rfl rfl))).is (eqv_pair _ _)) s25 (fun hb => absurd hb (by decide)) fun _ H26 e26 s26 => ?_
  try unfold tNext
  try dsimp only
  refine s_ret1 (d := .bl true) (E1.is (e_op (a := .str "string") (b := .str "string") (e_saidB (bd := .int 7) hT1 trivial (a_1 e_int)) e_str o_eqS) (by rw [decide_eq_true rfl])) s26 (Ex.refl W) fun v W' H2 z rv => ?_
  cases (show v = .bl true from rv)
  exact k H2
end K11
/-! K11E1: the promises joined; the walk with tables of several defs. -/
namespace K11
open PySem PySem.Spec PyProof.Rows
open L2
theorem dfn_mk {K : PySem.W.Frag} {h : Heap} {mg : Str → Option Value} (X : K.In h) (G : h.Ns mainGlobals mg) {x : Str} {i : Nat} {ps : List Str} {f : Addr} {oc dV kV dc pm cd ct : Value} {od an : Option Addr} {osl : Array (Option Value)} (a : PySem.W.nsIn K mainGlobals x = some (some (.ref f)))
    (l : K.lookup f = some ⟨oc, od, .func (PySem.W.fnOf x x (defArgs (topS i)) (defBody (topS i)) (defScope (topS i)) dV kV dc pm an cd ct), osl⟩) (c : PySem.W.codeIn K cd x = true) (k : PySem.W.keepIn K (.ref f) = true) (b : Binds K (PySem.W.fnOf x x (defArgs (topS i)) (defBody (topS i)) (defScope (topS i)) dV kV dc pm an cd ct) ps []) :
    Dfn K mg x i ps f (PySem.W.fnOf x x (defArgs (topS i)) (defBody (topS i)) (defScope (topS i)) dV kV dc pm an cd ct) := ⟨⟨oc, od, dV, kV, dc, pm, an, cd, ct, osl, rfl, l, c⟩, k, PySem.W.mg_of X G a, b⟩
/-- a def with a table, the heap not yet told -/
structure DfnK (K : PySem.W.Frag) (mg : Str → Option Value) (x : Str) (i : Nat) (ps : List Str) (f : Addr) (fd : FuncData) (c p0 : Addr) : Prop where
  ex : ∃ (oc : Value) (od : Option Addr) (dV kV doc pm : Value) (an : Option Addr) (ct : Value) (osl : Array (Option Value)),
    fd = PySem.W.fnOf x x (defArgs (topS i)) (defBody (topS i)) (defScope (topS i)) dV kV doc pm an (.ref c) ct ∧ K.lookup f = some ⟨oc, od, .func fd, osl⟩ ∧ PySem.W.codeIn K (.ref c) x = true
  kp : PySem.W.keepIn K (.ref f) = true
  mg : mg x = some (.ref f)
  b : Binds K fd ps []
  no : K.lookup p0 = none
  tab : PySem.W.tabIn K x = some (c, p0)
theorem DfnK.t {K : PySem.W.Frag} {mg : Str → Option Value} {base : Heap} {x : Str} {i : Nat} {ps : List Str} {f : Addr} {fd : FuncData} {c p0 : Addr} (D : DfnK K mg x i ps f fd c p0) (t : LamX.TabB base mg c p0) : DfnT K mg base x i ps f fd c p0 := ⟨D.ex, ⟨t.code, t.bm, t.gP⟩, D.kp, D.mg, D.b⟩
theorem dfnK_mk {K : PySem.W.Frag} {h : Heap} {mg : Str → Option Value} (X : K.In h) (G : h.Ns mainGlobals mg) {x : Str} {i : Nat} {ps : List Str} {f cA p0 : Addr} {oc dV kV dc pm ct ec : Value} {od an ed : Option Addr} {osl esl : Array (Option Value)} {vs : Array Value} (a : PySem.W.nsIn K mainGlobals x = some (some (.ref f)))
    (l : K.lookup f = some ⟨oc, od, .func (PySem.W.fnOf x x (defArgs (topS i)) (defBody (topS i)) (defScope (topS i)) dV kV dc pm an (.ref cA) ct), osl⟩) (lc : K.lookup cA = some ⟨ec, ed, .fields vs, esl⟩) (v11 : vs[11]? = some (.ref p0)) (no : K.lookup p0 = none) (c : PySem.W.codeIn K (.ref cA) x = true) (k : PySem.W.keepIn K (.ref f) = true) (b : Binds K (PySem.W.fnOf x x (defArgs (topS i)) (defBody (topS i)) (defScope (topS i)) dV kV dc pm an (.ref cA) ct) ps []) :
    DfnK K mg x i ps f (PySem.W.fnOf x x (defArgs (topS i)) (defBody (topS i)) (defScope (topS i)) dV kV dc pm an (.ref cA) ct) cA p0 := by
  refine ⟨⟨oc, od, dV, kV, dc, pm, an, ct, osl, rfl, l, c⟩, k, PySem.W.mg_of X G a, b, no, ?_⟩
  unfold PySem.W.tabIn
  rw [a]
  dsimp only
  rw [l]
  dsimp only
  rw [lc]
  dsimp only
  rw [v11]
/-- an error of the class cls, asked of the clause c -/
theorem exm_v {K : PySem.W.Frag} {A C : Addr} {b : Bool} (h1 : PySem.W.subIn K (.ref C) (.type "BaseException") = some true) (h2 : PySem.W.isClsIn K A = true) (h3 : PySem.W.typeIn K (.ref C) = some (.type "type")) (h4 : PySem.W.subIn K (.ref A) (.ref C) = some b) (h5 : PySem.W.isClsIn K C = true) (h6 : PySem.W.typeIn K (.ref A) = some (.type "type")) : PySem.W.exmOne K (.ref A) (.ref C) = some b := by
  unfold PySem.W.exmOne PySem.W.kitCls
  rw [h1]
  simp [h2, h3, h4, h5, h6, show (PySem.W.clsIn K C).isSome = true from h5, show (PySem.W.clsIn K A).isSome = true from h2]
section
variable {PP : Program} {w : World} {K : PySem.W.Frag} {mg : Str → Option Value} {base : Heap} {C CS fI aP aS aW : Addr} {fdI : FuncData}
theorem all_ok (TT : Tx K mg) (GG : Gx K mg aP aS aW) (BL : BLx K mg C fI fdI) (BS : BSx K mg CS) (EF : ExF K mg C CS)
    {f_is_number : Addr} {fd_is_number : FuncData} (D_is_number : Dfn K mg "is_number" 8 ["value", "low", "high"] f_is_number fd_is_number)
    {f_is_row c_is_row p_is_row : Addr} {fd_is_row : FuncData} (D_is_row : DfnK K mg "is_row" 9 ["prime", "value", "many"] f_is_row fd_is_row c_is_row p_is_row) (t_is_row : LamX.TabB base mg c_is_row p_is_row)
    {f_inverse : Addr} {fd_inverse : FuncData} (D_inverse : Dfn K mg "inverse" 10 ["prime", "number"] f_inverse fd_inverse)
    {f_added : Addr} {fd_added : FuncData} (D_added : Dfn K mg "added" 11 ["prime", "one", "other", "factor"] f_added fd_added)
    {f_scaled : Addr} {fd_scaled : FuncData} (D_scaled : Dfn K mg "scaled" 12 ["prime", "row", "factor"] f_scaled fd_scaled)
    {f_lead : Addr} {fd_lead : FuncData} (D_lead : Dfn K mg "lead" 13 ["row"] f_lead fd_lead)
    {f_reduced : Addr} {fd_reduced : FuncData} (D_reduced : Dfn K mg "reduced" 14 ["prime", "rows"] f_reduced fd_reduced)
    {f_are_rows c_are_rows p_are_rows : Addr} {fd_are_rows : FuncData} (D_are_rows : DfnK K mg "are_rows" 18 ["prime", "value", "low", "high", "many"] f_are_rows fd_are_rows c_are_rows p_are_rows) (t_are_rows : LamX.TabB base mg c_are_rows p_are_rows)
    {f_need_machine : Addr} {fd_need_machine : FuncData} (D_need_machine : Dfn K mg "need_machine" 19 ["value"] f_need_machine fd_need_machine)
    {f_is_instruction : Addr} {fd_is_instruction : FuncData} (D_is_instruction : Dfn K mg "is_instruction" 25 ["value", "prime", "writes", "sights", "many", "is_kept"] f_is_instruction fd_is_instruction)
    {f_need_rows : Addr} {fd_need_rows : FuncData} (D_need_rows : Dfn K mg "need_rows" 26 ["value", "prime", "writes", "sights", "is_kept"] f_need_rows fd_need_rows)
    {f_words_in : Addr} {fd_words_in : FuncData} (D_words_in : Dfn K mg "words_in" 29 ["line"] f_words_in fd_words_in)
    {f_whole_in c_whole_in p_whole_in : Addr} {fd_whole_in : FuncData} (D_whole_in : DfnK K mg "whole_in" 30 ["word", "low", "high"] f_whole_in fd_whole_in c_whole_in p_whole_in) (t_whole_in : LamX.TabB base mg c_whole_in p_whole_in)
    {f_need_text : Addr} {fd_need_text : FuncData} (D_need_text : Dfn K mg "need_text" 31 ["value"] f_need_text fd_need_text)
    {f_write_machine : Addr} {fd_write_machine : FuncData} (D_write_machine : Dfn K mg "write_machine" 32 ["machine"] f_write_machine fd_write_machine)
    {f_lines_in : Addr} {fd_lines_in : FuncData} (D_lines_in : Dfn K mg "lines_in" 33 ["text"] f_lines_in fd_lines_in)
    {f_number_at : Addr} {fd_number_at : FuncData} (D_number_at : Dfn K mg "number_at" 34 ["words", "place", "high", "at"] f_number_at fd_number_at)
    {f_need_end : Addr} {fd_need_end : FuncData} (D_need_end : Dfn K mg "need_end" 35 ["words", "many", "at"] f_need_end fd_need_end)
    {f_rows_at : Addr} {fd_rows_at : FuncData} (D_rows_at : Dfn K mg "rows_at" 36 ["lines", "word", "prime", "many", "most"] f_rows_at fd_rows_at)
    {f_read_machine : Addr} {fd_read_machine : FuncData} (D_read_machine : Dfn K mg "read_machine" 37 ["text"] f_read_machine fd_read_machine)
    {f_is_undone : Addr} {fd_is_undone : FuncData} (D_is_undone : Dfn K mg "is_undone" 38 ["prime", "table"] f_is_undone fd_is_undone)
    {f_write_program : Addr} {fd_write_program : FuncData} (D_write_program : Dfn K mg "write_program" 39 ["program"] f_write_program fd_write_program)
    {f_instruction_in : Addr} {fd_instruction_in : FuncData} (D_instruction_in : Dfn K mg "instruction_in" 40 ["words", "at"] f_instruction_in fd_instruction_in)
    {f_read_program : Addr} {fd_read_program : FuncData} (D_read_program : Dfn K mg "read_program" 41 ["text"] f_read_program fd_read_program)
    {f_law_taken : Addr} {fd_law_taken : FuncData} (D_law_taken : Dfn K mg "_law_taken" 43 ["_law_row_here", "_law_many"] f_law_taken fd_law_taken)
    {f_law_pick : Addr} {fd_law_pick : FuncData} (D_law_pick : Dfn K mg "_law_pick" 44 ["_law_row_here", "_law_things"] f_law_pick fd_law_pick)
    {f_law_alike : Addr} {fd_law_alike : FuncData} (D_law_alike : Dfn K mg "_law_alike" 45 ["_law_found", "_law_due"] f_law_alike fd_law_alike)
    {f_law_row : Addr} {fd_law_row : FuncData} (D_law_row : Dfn K mg "_law_row" 46 ["_law_row_here", "_law_prime", "_law_many"] f_law_row fd_law_row)
    {f_law_stir : Addr} {fd_law_stir : FuncData} (D_law_stir : Dfn K mg "_law_stir" 47 ["_law_row_here", "_law_prime", "_law_many"] f_law_stir fd_law_stir)
    {f_law_machine : Addr} {fd_law_machine : FuncData} (D_law_machine : Dfn K mg "_law_machine" 48 ["_law_row_here", "_law_primes", "_law_cells", "_law_plugs"] f_law_machine fd_law_machine)
    {f_law_program : Addr} {fd_law_program : FuncData} (D_law_program : Dfn K mg "_law_program" 49 ["_law_row_here", "_law_prime", "_law_values", "_law_most"] f_law_program fd_law_program)
    {f_law_bent_kept : Addr} {fd_law_bent_kept : FuncData} (D_law_bent_kept : Dfn K mg "_law_bent_kept" 50 ["_law_row_here", "_law_machine_here", "_law_program_here"] f_law_bent_kept fd_law_bent_kept)
    {f_law_said_session : Addr} {fd_law_said_session : FuncData} (D_law_said_session : Dfn K mg "_law_said_session" 51 ["_law_work"] f_law_said_session fd_law_said_session)
    {f_law_loose : Addr} {fd_law_loose : FuncData} (D_law_loose : Dfn K mg "_law_loose" 52 ["_law_row_here", "_law_text"] f_law_loose fd_law_loose)
    {f_law_bent : Addr} {fd_law_bent : FuncData} (D_law_bent : Dfn K mg "_law_bent" 53 ["_law_row_here", "_law_text", "_law_words"] f_law_bent fd_law_bent)
    {f_law_machine_text : Addr} {fd_law_machine_text : FuncData} (D_law_machine_text : Dfn K mg "_law_machine_text" 54 ["_law_machine_here"] f_law_machine_text fd_law_machine_text)
    {f_law c_law p_law : Addr} {fd_law : FuncData} (D_law : DfnK K mg "law" 55 ["_law_script"] f_law fd_law c_law p_law) (t_law : LamX.TabB base mg c_law p_law)
    (n1 : p_law ≠ p_is_row) (n2 : p_law ≠ p_are_rows) (n3 : p_law ≠ p_whole_in) : FnOk PP w K mg base (L2.CX PP w) 12 f_law fd_law ["_law_script"] (spLaw K [(p_law, lamQ)] [p_is_row, p_are_rows, p_whole_in]) := by
  have hn : ∀ {p : Addr}, p_law ≠ p → ∀ z ∈ [(p_law, lamQ)], z.1 ≠ p := fun {p} h z hz => by rw [List.mem_singleton.mp hz]; exact h
  have hP1 : p_is_row ∈ [p_is_row, p_are_rows, p_whole_in] := by simp
  have hP2 : p_are_rows ∈ [p_is_row, p_are_rows, p_whole_in] := by simp
  have hP3 : p_whole_in ∈ [p_is_row, p_are_rows, p_whole_in] := by simp
  generalize hPe : [p_is_row, p_are_rows, p_whole_in] = P at hP1 hP2 hP3 ⊢
  have hTm : (p_law, lamQ) ∈ [(p_law, lamQ)] := by simp
  have hTu : ∀ z ∈ [(p_law, lamQ)], z.1 = p_law → z.2 = lamQ := fun z hz _ => by rw [List.mem_singleton.mp hz]
  have hn1 := hn n1
  have hn2 := hn n2
  have hn3 := hn n3
  generalize [(p_law, lamQ)] = T at hn1 hn2 hn3 hTm hTu ⊢
  have T_is_row := D_is_row.t t_is_row
  have T_are_rows := D_are_rows.t t_are_rows
  have T_whole_in := D_whole_in.t t_whole_in
  have G_is_number := ok_is_number (PP := PP) (w := w) (T := T) (P := P) (base := base) TT D_is_number 
  have G_added := ok_added (PP := PP) (w := w) (T := T) (P := P) (base := base) TT D_added 
  have G_scaled := ok_scaled (PP := PP) (w := w) (T := T) (P := P) (base := base) TT D_scaled 
  have G_inverse := ok_inverse (PP := PP) (w := w) (T := T) (P := P) (base := base) TT D_inverse 
  have G_lead := ok_lead (PP := PP) (w := w) (T := T) (P := P) (base := base) TT D_lead 
  have G_reduced := ok_reduced (PP := PP) (w := w) (T := T) (P := P) (base := base) TT D_reduced D_added G_added D_scaled G_scaled D_lead G_lead D_inverse G_inverse
  have G_law_taken := ok_taken (PP := PP) (w := w) (T := T) (P := P) (base := base) TT D_law_taken 
  have G_law_pick := ok_pick (PP := PP) (w := w) (T := T) (P := P) (base := base) TT D_law_pick D_law_taken G_law_taken
  have G_law_row := ok_lrow (PP := PP) (w := w) (T := T) (P := P) (base := base) TT D_law_row D_law_taken G_law_taken
  have G_law_stir := ok_stir (PP := PP) (w := w) (T := T) (P := P) (base := base) TT D_law_stir D_law_taken G_law_taken
  have G_law_machine := ok_mac (PP := PP) (w := w) (T := T) (P := P) (base := base) TT D_law_machine D_law_taken G_law_taken D_law_pick G_law_pick D_law_row G_law_row D_law_stir G_law_stir
  have G_law_program := ok_prog (PP := PP) (w := w) (T := T) (P := P) (base := base) TT D_law_program D_law_taken G_law_taken D_law_pick G_law_pick
  have G_law_bent_kept := ok_kept (PP := PP) (w := w) (T := T) (P := P) (base := base) TT D_law_bent_kept D_law_taken G_law_taken D_law_pick G_law_pick
  have G_words_in := ok_words (PP := PP) (w := w) (T := T) (P := P) (base := base) TT D_words_in 
  have G_lines_in := ok_lines (PP := PP) (w := w) (T := T) (P := P) (base := base) TT D_lines_in D_words_in G_words_in
  have G_law_machine_text := ok_mtext (PP := PP) (w := w) (T := T) (P := P) (base := base) TT D_law_machine_text 
  have G_law_loose := ok_loose (PP := PP) (w := w) (T := T) (P := P) (base := base) TT D_law_loose D_law_taken G_law_taken
  have G_law_bent := ok_bent (PP := PP) (w := w) (T := T) (P := P) (base := base) TT D_law_bent D_law_taken G_law_taken D_law_pick G_law_pick
  have G_is_undone := ok_undone (PP := PP) (w := w) (T := T) (P := P) (base := base) TT D_is_undone D_reduced G_reduced
  have G_is_instruction := ok_isins (PP := PP) (w := w) (T := T) (P := P) (base := base) TT GG D_is_instruction D_is_number G_is_number
  have G_need_rows := ok_needr (PP := PP) (w := w) (T := T) (P := P) (base := base) TT GG D_need_rows D_is_instruction G_is_instruction
  have G_write_program := ok_wprog (PP := PP) (w := w) (T := T) (P := P) (base := base) TT D_write_program D_need_rows G_need_rows
  have G_need_end := ok_nend (PP := PP) (w := w) (T := T) (P := P) (base := base) TT BL D_need_end 
  have G_is_row := ok_isrow (PP := PP) (w := w) (T := T) (P := P) (base := base) TT hP1 hn1 T_is_row D_is_number G_is_number
  have G_are_rows := ok_arerows (x1 := "a") (x2 := 0) (PP := PP) (w := w) (T := T) (P := P) (base := base) TT hP2 hn2 T_are_rows D_is_row.mg D_is_row.kp D_is_row.b G_is_row
  have G_need_machine := ok_needm (PP := PP) (w := w) (T := T) (P := P) (base := base) TT GG D_need_machine D_is_number G_is_number T_are_rows G_are_rows D_reduced G_reduced
  have G_write_machine := ok_wmac (PP := PP) (w := w) (T := T) (P := P) (base := base) TT D_write_machine D_need_machine G_need_machine
  have G_whole_in := ok_whole (PP := PP) (w := w) (T := T) (P := P) (base := base) TT GG hP3 hn3 T_whole_in
  have G_number_at := ok_numat (PP := PP) (w := w) (T := T) (P := P) (base := base) TT BL D_number_at T_whole_in G_whole_in
  have G_instruction_in := ok_insin (PP := PP) (w := w) (T := T) (P := P) (base := base) TT GG BL D_instruction_in D_number_at G_number_at D_need_end G_need_end
  have G_need_text := ok_ntS (PP := PP) (w := w) (T := T) (P := P) (base := base) TT D_need_text 
  have G_need_textX := ok_ntX (PP := PP) (w := w) (T := T) (P := P) (base := base) TT BS D_need_text 
  have G_read_program := ok_rprog (PP := PP) (w := w) (T := T) (P := P) (base := base) TT GG BL D_read_program D_need_text G_need_text D_lines_in G_lines_in D_instruction_in G_instruction_in
  have G_rows_at := ok_rowsat (PP := PP) (w := w) (T := T) (P := P) (base := base) TT BL D_rows_at D_number_at G_number_at D_need_end G_need_end
  have G_read_machine := ok_rmach (PP := PP) (w := w) (T := T) (P := P) (base := base) TT GG BL D_read_machine D_need_text G_need_text D_lines_in G_lines_in D_number_at G_number_at D_need_end G_need_end D_rows_at G_rows_at D_is_undone G_is_undone
  have G_read_machineX := ok_rmachX (PP := PP) (w := w) (T := T) (P := P) (base := base) TT D_read_machine D_need_text G_need_textX
  have G_read_programX := ok_rprogX (PP := PP) (w := w) (T := T) (P := P) (base := base) TT D_read_program D_need_text G_need_textX
  have G_alike := ok_alikeS (PP := PP) (w := w) (T := T) (P := P) (base := base) TT D_law_alike (ok_alikeS (PP := PP) (w := w) (T := T) (P := P) (base := base) TT D_law_alike (ok_alikeS (PP := PP) (w := w) (T := T) (P := P) (base := base) TT D_law_alike (ok_alike0 (PP := PP) (w := w) (T := T) (P := P) (base := base) TT D_law_alike)))
  exact ok_law TT EF hTm hTu t_law (D_law.t t_law) D_law_machine G_law_machine D_law_machine_text G_law_machine_text D_write_machine G_write_machine D_law_alike G_alike D_law_loose G_law_loose D_read_machine G_read_machine G_read_machineX D_law_bent G_law_bent D_law_said_session D_law_pick G_law_pick D_law_bent_kept G_law_bent_kept D_law_program G_law_program D_write_program G_write_program D_read_program G_read_program G_read_programX
end
/-- the walk, where several defs hold tables -/
theorem walk_tabs {l : PySem.W.OpenLaw} {n k : Nat} {qv : Program} {loose : List Str} {XP : (Str → Option Value) → Heap → Prop} {YP : World → Heap → Prop} {d : DefRec} {K : Params → PySem.W.Frag} {CX : World → CXT} {x : Str} (names : List Str)
    (hn : l.most = some n) (hn2 : n ≤ sizeLine) (hdf : d.params.defaults = []) (hr : Room k callerA) (hrec : (names.all fun y => (recsOf qv).any fun e => e.name == y) = true) (hY : ∀ (w : World) (h : Heap), YP w h → (K w.params).In h)
    (F : ∀ (w : World) (mg : Str → Option Value) (fa : Addr) (h : Heap), YP w h → (K w.params).In h → h.Ns mainGlobals mg → mg d.name = some (.ref fa) → (∀ y ∈ names, ∀ c P : Addr, PySem.W.tabIn (K w.params) y = some (c, P) → PySem.W.CodeHd h c P ∧ h.get? P = some { cls := .none, data := .fields #[] }) → LamX.LawAtS l w (K w.params) (CX w) k n x mg fa h)
    (hCX : ∀ (w : World) (H : Hp) (s : Shared) (e : Value) (s' : Shared), CX w [] H s (fun _ _ _ => False) e s' → False) :
    PySem.W.WalkO qv loose XP YP l.row.toRowW d [] (fun f vs => PySem.call f vs) := by
  refine Att.attach_callB hn hdf fun w s₀ s₁ mg mb fa o pm cd doc a vs ns G Y ho hd hcd hmg hobj hints hlen hbits hg => ?_
  have inK := hY w _ Y
  have tabs : ∀ y ∈ names, ∀ c P : Addr, PySem.W.tabIn (K w.params) y = some (c, P) → PySem.W.CodeHd s₁.heap c P ∧ s₁.heap.get? P = some { cls := .none, data := .fields #[] } := fun y hy c P ht => by
    have q := List.all_eq_true.mp hrec y hy
    have hsome : ((recsOf qv).find? (fun e => e.name == y)).isSome = true := by
      rw [List.find?_isSome]
      exact List.any_eq_true.mp q
    obtain ⟨dR, hdR⟩ := Option.isSome_iff_exists.mp hsome
    exact PySem.W.tab_of G.T inK hdR ht
  obtain ⟨fd, cs, sp, hT, nT, C, hb, hsp, hF⟩ := F w mg fa _ Y inK G.T.g hmg tabs
  exact LamX.law_callTs inK G.T.g G.T.b G.T.builtins G.T.nolimit hg hT nT C G.T.bmain hobj hints (Nat.le_trans hlen hn2) hr hF hb (fun H hH hS => hsp H a ns hlen hbits hH hS) fun H e s' => hCX w H s₁ e s'
end K11
/-! K11E2: what the top has written gives the law. -/
namespace K11
open PySem PySem.Spec PyProof.Rows
open L2
section
variable {K : PySem.W.Frag} {a : Addr} {od : Option Addr} {sl : Array (Option Value)} {n : Nat}
theorem frz4 {i1 i2 i3 i4 : Int} {t1 t2 t3 t4 : Tok} (l : K.lookup a = some ⟨.type "tuple", od, .seq #[.int i1 t1, .int i2 t2, .int i3 t3, .int i4 t4] n, sl⟩) : ∀ W, Rp K W (.tup [.int i1, .int i2, .int i3, .int i4]) (.ref a) := fun W =>
  ⟨a, [.int i1, .int i2, .int i3, .int i4], rfl, .inr ⟨_, _, _, l, rfl, rfl, by show 4 ≤ sizeLine; decide, .cons ⟨_, rfl⟩ (.cons ⟨_, rfl⟩ (.cons ⟨_, rfl⟩ (.cons ⟨_, rfl⟩ .nil)))⟩, rfl, rfl, rfl, rfl, trivial⟩
theorem frzS3 {i1 i2 i3 : Str} {t1 t2 t3 : Tok} (l : K.lookup a = some ⟨.type "tuple", od, .seq #[.str i1 t1, .str i2 t2, .str i3 t3] n, sl⟩) : ∀ W, Rp K W (.tup [.str i1, .str i2, .str i3]) (.ref a) := fun W =>
  ⟨a, [.str i1, .str i2, .str i3], rfl, .inr ⟨_, _, _, l, rfl, rfl, by show 3 ≤ sizeLine; decide, .cons ⟨_, rfl⟩ (.cons ⟨_, rfl⟩ (.cons ⟨_, rfl⟩ .nil))⟩, rfl, rfl, rfl, trivial⟩
theorem frzS2 {i1 i2 : Str} {t1 t2 : Tok} (l : K.lookup a = some ⟨.type "tuple", od, .seq #[.str i1 t1, .str i2 t2] n, sl⟩) : ∀ W, Rp K W (.tup [.str i1, .str i2]) (.ref a) := fun W =>
  ⟨a, [.str i1, .str i2], rfl, .inr ⟨_, _, _, l, rfl, rfl, by show 2 ≤ sizeLine; decide, .cons ⟨_, rfl⟩ (.cons ⟨_, rfl⟩ .nil)⟩, rfl, rfl, trivial⟩
theorem b_added {kV dc pm cd ct oT : Value} {an od' : Option Addr} {T : Addr} {oT' : Option Addr} {tk : Tok} (l : K.lookup T = some ⟨.type "tuple", oT', .seq #[.int 1 tk] n, sl⟩) : Binds K (PySem.W.fnOf "added" "added" (defArgs (topS 11)) (defBody (topS 11)) (defScope (topS 11)) (.ref T) kV dc pm an cd ct) ["prime", "one", "other", "factor"] [] := fun s us X hl => by
  rw [List.append_nil] at hl ⊢
  refine BindsTo.of_looks fun M => ?_
  match us, hl with
  | [_, _, _, _], _ => exact looks_items X l rfl (.of_pure rfl)
end
theorem all_mk {l : PySem.W.OpenLaw} {w : World} {K : PySem.W.Frag} {h : Heap} {mg : Str → Option Value} {fa : Addr}
    {f_is_number : Addr} {oc_is_number dc_is_number pm_is_number ct_is_number kV_is_number : Value} {od_is_number an_is_number : Option Addr} {sl_is_number : Array (Option Value)} {cd_is_number : Value}
    {f_is_row : Addr} {oc_is_row dc_is_row pm_is_row ct_is_row kV_is_row : Value} {od_is_row an_is_row : Option Addr} {sl_is_row : Array (Option Value)}
    {c_is_row p_is_row : Addr} {ec_is_row : Value} {ed_is_row : Option Addr} {vs_is_row : Array Value} {es_is_row : Array (Option Value)}
    {f_inverse : Addr} {oc_inverse dc_inverse pm_inverse ct_inverse kV_inverse : Value} {od_inverse an_inverse : Option Addr} {sl_inverse : Array (Option Value)} {cd_inverse : Value}
    {f_added : Addr} {oc_added dc_added pm_added ct_added kV_added : Value} {od_added an_added : Option Addr} {sl_added : Array (Option Value)} {cd_added : Value}
    {T_added : Addr} {oT_added : Option Addr} {tk_added : Tok} {n_added : Nat} {slT_added : Array (Option Value)}
    {f_scaled : Addr} {oc_scaled dc_scaled pm_scaled ct_scaled kV_scaled : Value} {od_scaled an_scaled : Option Addr} {sl_scaled : Array (Option Value)} {cd_scaled : Value}
    {f_lead : Addr} {oc_lead dc_lead pm_lead ct_lead kV_lead : Value} {od_lead an_lead : Option Addr} {sl_lead : Array (Option Value)} {cd_lead : Value}
    {f_reduced : Addr} {oc_reduced dc_reduced pm_reduced ct_reduced kV_reduced : Value} {od_reduced an_reduced : Option Addr} {sl_reduced : Array (Option Value)} {cd_reduced : Value}
    {f_are_rows : Addr} {oc_are_rows dc_are_rows pm_are_rows ct_are_rows kV_are_rows : Value} {od_are_rows an_are_rows : Option Addr} {sl_are_rows : Array (Option Value)}
    {c_are_rows p_are_rows : Addr} {ec_are_rows : Value} {ed_are_rows : Option Addr} {vs_are_rows : Array Value} {es_are_rows : Array (Option Value)}
    {f_need_machine : Addr} {oc_need_machine dc_need_machine pm_need_machine ct_need_machine kV_need_machine : Value} {od_need_machine an_need_machine : Option Addr} {sl_need_machine : Array (Option Value)} {cd_need_machine : Value}
    {f_is_instruction : Addr} {oc_is_instruction dc_is_instruction pm_is_instruction ct_is_instruction kV_is_instruction : Value} {od_is_instruction an_is_instruction : Option Addr} {sl_is_instruction : Array (Option Value)} {cd_is_instruction : Value}
    {f_need_rows : Addr} {oc_need_rows dc_need_rows pm_need_rows ct_need_rows kV_need_rows : Value} {od_need_rows an_need_rows : Option Addr} {sl_need_rows : Array (Option Value)} {cd_need_rows : Value}
    {f_words_in : Addr} {oc_words_in dc_words_in pm_words_in ct_words_in kV_words_in : Value} {od_words_in an_words_in : Option Addr} {sl_words_in : Array (Option Value)} {cd_words_in : Value}
    {f_whole_in : Addr} {oc_whole_in dc_whole_in pm_whole_in ct_whole_in kV_whole_in : Value} {od_whole_in an_whole_in : Option Addr} {sl_whole_in : Array (Option Value)}
    {c_whole_in p_whole_in : Addr} {ec_whole_in : Value} {ed_whole_in : Option Addr} {vs_whole_in : Array Value} {es_whole_in : Array (Option Value)}
    {f_need_text : Addr} {oc_need_text dc_need_text pm_need_text ct_need_text kV_need_text : Value} {od_need_text an_need_text : Option Addr} {sl_need_text : Array (Option Value)} {cd_need_text : Value}
    {f_write_machine : Addr} {oc_write_machine dc_write_machine pm_write_machine ct_write_machine kV_write_machine : Value} {od_write_machine an_write_machine : Option Addr} {sl_write_machine : Array (Option Value)} {cd_write_machine : Value}
    {f_lines_in : Addr} {oc_lines_in dc_lines_in pm_lines_in ct_lines_in kV_lines_in : Value} {od_lines_in an_lines_in : Option Addr} {sl_lines_in : Array (Option Value)} {cd_lines_in : Value}
    {f_number_at : Addr} {oc_number_at dc_number_at pm_number_at ct_number_at kV_number_at : Value} {od_number_at an_number_at : Option Addr} {sl_number_at : Array (Option Value)} {cd_number_at : Value}
    {f_need_end : Addr} {oc_need_end dc_need_end pm_need_end ct_need_end kV_need_end : Value} {od_need_end an_need_end : Option Addr} {sl_need_end : Array (Option Value)} {cd_need_end : Value}
    {f_rows_at : Addr} {oc_rows_at dc_rows_at pm_rows_at ct_rows_at kV_rows_at : Value} {od_rows_at an_rows_at : Option Addr} {sl_rows_at : Array (Option Value)} {cd_rows_at : Value}
    {f_read_machine : Addr} {oc_read_machine dc_read_machine pm_read_machine ct_read_machine kV_read_machine : Value} {od_read_machine an_read_machine : Option Addr} {sl_read_machine : Array (Option Value)} {cd_read_machine : Value}
    {f_is_undone : Addr} {oc_is_undone dc_is_undone pm_is_undone ct_is_undone kV_is_undone : Value} {od_is_undone an_is_undone : Option Addr} {sl_is_undone : Array (Option Value)} {cd_is_undone : Value}
    {f_write_program : Addr} {oc_write_program dc_write_program pm_write_program ct_write_program kV_write_program : Value} {od_write_program an_write_program : Option Addr} {sl_write_program : Array (Option Value)} {cd_write_program : Value}
    {f_instruction_in : Addr} {oc_instruction_in dc_instruction_in pm_instruction_in ct_instruction_in kV_instruction_in : Value} {od_instruction_in an_instruction_in : Option Addr} {sl_instruction_in : Array (Option Value)} {cd_instruction_in : Value}
    {f_read_program : Addr} {oc_read_program dc_read_program pm_read_program ct_read_program kV_read_program : Value} {od_read_program an_read_program : Option Addr} {sl_read_program : Array (Option Value)} {cd_read_program : Value}
    {f_law_taken : Addr} {oc_law_taken dc_law_taken pm_law_taken ct_law_taken kV_law_taken : Value} {od_law_taken an_law_taken : Option Addr} {sl_law_taken : Array (Option Value)} {cd_law_taken : Value}
    {f_law_pick : Addr} {oc_law_pick dc_law_pick pm_law_pick ct_law_pick kV_law_pick : Value} {od_law_pick an_law_pick : Option Addr} {sl_law_pick : Array (Option Value)} {cd_law_pick : Value}
    {f_law_alike : Addr} {oc_law_alike dc_law_alike pm_law_alike ct_law_alike kV_law_alike : Value} {od_law_alike an_law_alike : Option Addr} {sl_law_alike : Array (Option Value)} {cd_law_alike : Value}
    {f_law_row : Addr} {oc_law_row dc_law_row pm_law_row ct_law_row kV_law_row : Value} {od_law_row an_law_row : Option Addr} {sl_law_row : Array (Option Value)} {cd_law_row : Value}
    {f_law_stir : Addr} {oc_law_stir dc_law_stir pm_law_stir ct_law_stir kV_law_stir : Value} {od_law_stir an_law_stir : Option Addr} {sl_law_stir : Array (Option Value)} {cd_law_stir : Value}
    {f_law_machine : Addr} {oc_law_machine dc_law_machine pm_law_machine ct_law_machine kV_law_machine : Value} {od_law_machine an_law_machine : Option Addr} {sl_law_machine : Array (Option Value)} {cd_law_machine : Value}
    {f_law_program : Addr} {oc_law_program dc_law_program pm_law_program ct_law_program kV_law_program : Value} {od_law_program an_law_program : Option Addr} {sl_law_program : Array (Option Value)} {cd_law_program : Value}
    {f_law_bent_kept : Addr} {oc_law_bent_kept dc_law_bent_kept pm_law_bent_kept ct_law_bent_kept kV_law_bent_kept : Value} {od_law_bent_kept an_law_bent_kept : Option Addr} {sl_law_bent_kept : Array (Option Value)} {cd_law_bent_kept : Value}
    {f_law_said_session : Addr} {oc_law_said_session dc_law_said_session pm_law_said_session ct_law_said_session kV_law_said_session : Value} {od_law_said_session an_law_said_session : Option Addr} {sl_law_said_session : Array (Option Value)} {cd_law_said_session : Value}
    {f_law_loose : Addr} {oc_law_loose dc_law_loose pm_law_loose ct_law_loose kV_law_loose : Value} {od_law_loose an_law_loose : Option Addr} {sl_law_loose : Array (Option Value)} {cd_law_loose : Value}
    {f_law_bent : Addr} {oc_law_bent dc_law_bent pm_law_bent ct_law_bent kV_law_bent : Value} {od_law_bent an_law_bent : Option Addr} {sl_law_bent : Array (Option Value)} {cd_law_bent : Value}
    {f_law_machine_text : Addr} {oc_law_machine_text dc_law_machine_text pm_law_machine_text ct_law_machine_text kV_law_machine_text : Value} {od_law_machine_text an_law_machine_text : Option Addr} {sl_law_machine_text : Array (Option Value)} {cd_law_machine_text : Value}
    {f_law : Addr} {oc_law dc_law pm_law ct_law kV_law : Value} {od_law an_law : Option Addr} {sl_law : Array (Option Value)}
    {c_law p_law : Addr} {ec_law : Value} {ed_law : Option Addr} {vs_law : Array Value} {es_law : Array (Option Value)}
    {C CS fI N : Addr} {nm q : Str} {bs bm : List Value} {sn : List Str} {sub : List Value} {ab : Bool} {col : Option Bool} {dd : Option Addr} {m0 m1 m2 m3 m5 : Option Value} {ocI kVI dcI pmI cdI ctI : Value} {odI anI : Option Addr} {slI : Array (Option Value)}
    {aP aG aW : Addr} {odP odG odW : Option Addr} {nP nG nW : Nat} {slP slG slW : Array (Option Value)} {tP1 tP2 tP3 tP4 tG1 tG2 tG3 tW1 tW2 tM1 tM2 tM3 tM4 tM5 : Tok}
    (X : K.In h) (G : h.Ns mainGlobals mg) (hfa : mg "law" = some (.ref fa)) (tabs : ∀ y ∈ (["is_row", "are_rows", "whole_in", "law"] : List Str), ∀ c P : Addr, PySem.W.tabIn K y = some (c, P) → PySem.W.CodeHd h c P ∧ h.get? P = some { cls := .none, data := .fields #[] })
    (a_is_number : PySem.W.nsIn K mainGlobals "is_number" = some (some (.ref f_is_number)))
    (l_is_number : K.lookup f_is_number = some ⟨oc_is_number, od_is_number, .func (PySem.W.fnOf "is_number" "is_number" (defArgs (topS 8)) (defBody (topS 8)) (defScope (topS 8)) .none kV_is_number dc_is_number pm_is_number an_is_number cd_is_number ct_is_number), sl_is_number⟩)
    (c_is_number : PySem.W.codeIn K cd_is_number "is_number" = true)
    (k_is_number : PySem.W.keepIn K (.ref f_is_number) = true)
    (a_is_row : PySem.W.nsIn K mainGlobals "is_row" = some (some (.ref f_is_row)))
    (l_is_row : K.lookup f_is_row = some ⟨oc_is_row, od_is_row, .func (PySem.W.fnOf "is_row" "is_row" (defArgs (topS 9)) (defBody (topS 9)) (defScope (topS 9)) .none kV_is_row dc_is_row pm_is_row an_is_row (.ref c_is_row) ct_is_row), sl_is_row⟩)
    (lc_is_row : K.lookup c_is_row = some ⟨ec_is_row, ed_is_row, .fields vs_is_row, es_is_row⟩)
    (v_is_row : vs_is_row[11]? = some (.ref p_is_row))
    (no_is_row : K.lookup p_is_row = none)
    (cc_is_row : PySem.W.codeIn K (.ref c_is_row) "is_row" = true)
    (k_is_row : PySem.W.keepIn K (.ref f_is_row) = true)
    (a_inverse : PySem.W.nsIn K mainGlobals "inverse" = some (some (.ref f_inverse)))
    (l_inverse : K.lookup f_inverse = some ⟨oc_inverse, od_inverse, .func (PySem.W.fnOf "inverse" "inverse" (defArgs (topS 10)) (defBody (topS 10)) (defScope (topS 10)) .none kV_inverse dc_inverse pm_inverse an_inverse cd_inverse ct_inverse), sl_inverse⟩)
    (c_inverse : PySem.W.codeIn K cd_inverse "inverse" = true)
    (k_inverse : PySem.W.keepIn K (.ref f_inverse) = true)
    (a_added : PySem.W.nsIn K mainGlobals "added" = some (some (.ref f_added)))
    (l_added : K.lookup f_added = some ⟨oc_added, od_added, .func (PySem.W.fnOf "added" "added" (defArgs (topS 11)) (defBody (topS 11)) (defScope (topS 11)) (.ref T_added) kV_added dc_added pm_added an_added cd_added ct_added), sl_added⟩)
    (lT_added : K.lookup T_added = some ⟨.type "tuple", oT_added, .seq #[.int 1 tk_added] n_added, slT_added⟩)
    (c_added : PySem.W.codeIn K cd_added "added" = true)
    (k_added : PySem.W.keepIn K (.ref f_added) = true)
    (a_scaled : PySem.W.nsIn K mainGlobals "scaled" = some (some (.ref f_scaled)))
    (l_scaled : K.lookup f_scaled = some ⟨oc_scaled, od_scaled, .func (PySem.W.fnOf "scaled" "scaled" (defArgs (topS 12)) (defBody (topS 12)) (defScope (topS 12)) .none kV_scaled dc_scaled pm_scaled an_scaled cd_scaled ct_scaled), sl_scaled⟩)
    (c_scaled : PySem.W.codeIn K cd_scaled "scaled" = true)
    (k_scaled : PySem.W.keepIn K (.ref f_scaled) = true)
    (a_lead : PySem.W.nsIn K mainGlobals "lead" = some (some (.ref f_lead)))
    (l_lead : K.lookup f_lead = some ⟨oc_lead, od_lead, .func (PySem.W.fnOf "lead" "lead" (defArgs (topS 13)) (defBody (topS 13)) (defScope (topS 13)) .none kV_lead dc_lead pm_lead an_lead cd_lead ct_lead), sl_lead⟩)
    (c_lead : PySem.W.codeIn K cd_lead "lead" = true)
    (k_lead : PySem.W.keepIn K (.ref f_lead) = true)
    (a_reduced : PySem.W.nsIn K mainGlobals "reduced" = some (some (.ref f_reduced)))
    (l_reduced : K.lookup f_reduced = some ⟨oc_reduced, od_reduced, .func (PySem.W.fnOf "reduced" "reduced" (defArgs (topS 14)) (defBody (topS 14)) (defScope (topS 14)) .none kV_reduced dc_reduced pm_reduced an_reduced cd_reduced ct_reduced), sl_reduced⟩)
    (c_reduced : PySem.W.codeIn K cd_reduced "reduced" = true)
    (k_reduced : PySem.W.keepIn K (.ref f_reduced) = true)
    (a_are_rows : PySem.W.nsIn K mainGlobals "are_rows" = some (some (.ref f_are_rows)))
    (l_are_rows : K.lookup f_are_rows = some ⟨oc_are_rows, od_are_rows, .func (PySem.W.fnOf "are_rows" "are_rows" (defArgs (topS 18)) (defBody (topS 18)) (defScope (topS 18)) .none kV_are_rows dc_are_rows pm_are_rows an_are_rows (.ref c_are_rows) ct_are_rows), sl_are_rows⟩)
    (lc_are_rows : K.lookup c_are_rows = some ⟨ec_are_rows, ed_are_rows, .fields vs_are_rows, es_are_rows⟩)
    (v_are_rows : vs_are_rows[11]? = some (.ref p_are_rows))
    (no_are_rows : K.lookup p_are_rows = none)
    (cc_are_rows : PySem.W.codeIn K (.ref c_are_rows) "are_rows" = true)
    (k_are_rows : PySem.W.keepIn K (.ref f_are_rows) = true)
    (a_need_machine : PySem.W.nsIn K mainGlobals "need_machine" = some (some (.ref f_need_machine)))
    (l_need_machine : K.lookup f_need_machine = some ⟨oc_need_machine, od_need_machine, .func (PySem.W.fnOf "need_machine" "need_machine" (defArgs (topS 19)) (defBody (topS 19)) (defScope (topS 19)) .none kV_need_machine dc_need_machine pm_need_machine an_need_machine cd_need_machine ct_need_machine), sl_need_machine⟩)
    (c_need_machine : PySem.W.codeIn K cd_need_machine "need_machine" = true)
    (k_need_machine : PySem.W.keepIn K (.ref f_need_machine) = true)
    (a_is_instruction : PySem.W.nsIn K mainGlobals "is_instruction" = some (some (.ref f_is_instruction)))
    (l_is_instruction : K.lookup f_is_instruction = some ⟨oc_is_instruction, od_is_instruction, .func (PySem.W.fnOf "is_instruction" "is_instruction" (defArgs (topS 25)) (defBody (topS 25)) (defScope (topS 25)) .none kV_is_instruction dc_is_instruction pm_is_instruction an_is_instruction cd_is_instruction ct_is_instruction), sl_is_instruction⟩)
    (c_is_instruction : PySem.W.codeIn K cd_is_instruction "is_instruction" = true)
    (k_is_instruction : PySem.W.keepIn K (.ref f_is_instruction) = true)
    (a_need_rows : PySem.W.nsIn K mainGlobals "need_rows" = some (some (.ref f_need_rows)))
    (l_need_rows : K.lookup f_need_rows = some ⟨oc_need_rows, od_need_rows, .func (PySem.W.fnOf "need_rows" "need_rows" (defArgs (topS 26)) (defBody (topS 26)) (defScope (topS 26)) .none kV_need_rows dc_need_rows pm_need_rows an_need_rows cd_need_rows ct_need_rows), sl_need_rows⟩)
    (c_need_rows : PySem.W.codeIn K cd_need_rows "need_rows" = true)
    (k_need_rows : PySem.W.keepIn K (.ref f_need_rows) = true)
    (a_words_in : PySem.W.nsIn K mainGlobals "words_in" = some (some (.ref f_words_in)))
    (l_words_in : K.lookup f_words_in = some ⟨oc_words_in, od_words_in, .func (PySem.W.fnOf "words_in" "words_in" (defArgs (topS 29)) (defBody (topS 29)) (defScope (topS 29)) .none kV_words_in dc_words_in pm_words_in an_words_in cd_words_in ct_words_in), sl_words_in⟩)
    (c_words_in : PySem.W.codeIn K cd_words_in "words_in" = true)
    (k_words_in : PySem.W.keepIn K (.ref f_words_in) = true)
    (a_whole_in : PySem.W.nsIn K mainGlobals "whole_in" = some (some (.ref f_whole_in)))
    (l_whole_in : K.lookup f_whole_in = some ⟨oc_whole_in, od_whole_in, .func (PySem.W.fnOf "whole_in" "whole_in" (defArgs (topS 30)) (defBody (topS 30)) (defScope (topS 30)) .none kV_whole_in dc_whole_in pm_whole_in an_whole_in (.ref c_whole_in) ct_whole_in), sl_whole_in⟩)
    (lc_whole_in : K.lookup c_whole_in = some ⟨ec_whole_in, ed_whole_in, .fields vs_whole_in, es_whole_in⟩)
    (v_whole_in : vs_whole_in[11]? = some (.ref p_whole_in))
    (no_whole_in : K.lookup p_whole_in = none)
    (cc_whole_in : PySem.W.codeIn K (.ref c_whole_in) "whole_in" = true)
    (k_whole_in : PySem.W.keepIn K (.ref f_whole_in) = true)
    (a_need_text : PySem.W.nsIn K mainGlobals "need_text" = some (some (.ref f_need_text)))
    (l_need_text : K.lookup f_need_text = some ⟨oc_need_text, od_need_text, .func (PySem.W.fnOf "need_text" "need_text" (defArgs (topS 31)) (defBody (topS 31)) (defScope (topS 31)) .none kV_need_text dc_need_text pm_need_text an_need_text cd_need_text ct_need_text), sl_need_text⟩)
    (c_need_text : PySem.W.codeIn K cd_need_text "need_text" = true)
    (k_need_text : PySem.W.keepIn K (.ref f_need_text) = true)
    (a_write_machine : PySem.W.nsIn K mainGlobals "write_machine" = some (some (.ref f_write_machine)))
    (l_write_machine : K.lookup f_write_machine = some ⟨oc_write_machine, od_write_machine, .func (PySem.W.fnOf "write_machine" "write_machine" (defArgs (topS 32)) (defBody (topS 32)) (defScope (topS 32)) .none kV_write_machine dc_write_machine pm_write_machine an_write_machine cd_write_machine ct_write_machine), sl_write_machine⟩)
    (c_write_machine : PySem.W.codeIn K cd_write_machine "write_machine" = true)
    (k_write_machine : PySem.W.keepIn K (.ref f_write_machine) = true)
    (a_lines_in : PySem.W.nsIn K mainGlobals "lines_in" = some (some (.ref f_lines_in)))
    (l_lines_in : K.lookup f_lines_in = some ⟨oc_lines_in, od_lines_in, .func (PySem.W.fnOf "lines_in" "lines_in" (defArgs (topS 33)) (defBody (topS 33)) (defScope (topS 33)) .none kV_lines_in dc_lines_in pm_lines_in an_lines_in cd_lines_in ct_lines_in), sl_lines_in⟩)
    (c_lines_in : PySem.W.codeIn K cd_lines_in "lines_in" = true)
    (k_lines_in : PySem.W.keepIn K (.ref f_lines_in) = true)
    (a_number_at : PySem.W.nsIn K mainGlobals "number_at" = some (some (.ref f_number_at)))
    (l_number_at : K.lookup f_number_at = some ⟨oc_number_at, od_number_at, .func (PySem.W.fnOf "number_at" "number_at" (defArgs (topS 34)) (defBody (topS 34)) (defScope (topS 34)) .none kV_number_at dc_number_at pm_number_at an_number_at cd_number_at ct_number_at), sl_number_at⟩)
    (c_number_at : PySem.W.codeIn K cd_number_at "number_at" = true)
    (k_number_at : PySem.W.keepIn K (.ref f_number_at) = true)
    (a_need_end : PySem.W.nsIn K mainGlobals "need_end" = some (some (.ref f_need_end)))
    (l_need_end : K.lookup f_need_end = some ⟨oc_need_end, od_need_end, .func (PySem.W.fnOf "need_end" "need_end" (defArgs (topS 35)) (defBody (topS 35)) (defScope (topS 35)) .none kV_need_end dc_need_end pm_need_end an_need_end cd_need_end ct_need_end), sl_need_end⟩)
    (c_need_end : PySem.W.codeIn K cd_need_end "need_end" = true)
    (k_need_end : PySem.W.keepIn K (.ref f_need_end) = true)
    (a_rows_at : PySem.W.nsIn K mainGlobals "rows_at" = some (some (.ref f_rows_at)))
    (l_rows_at : K.lookup f_rows_at = some ⟨oc_rows_at, od_rows_at, .func (PySem.W.fnOf "rows_at" "rows_at" (defArgs (topS 36)) (defBody (topS 36)) (defScope (topS 36)) .none kV_rows_at dc_rows_at pm_rows_at an_rows_at cd_rows_at ct_rows_at), sl_rows_at⟩)
    (c_rows_at : PySem.W.codeIn K cd_rows_at "rows_at" = true)
    (k_rows_at : PySem.W.keepIn K (.ref f_rows_at) = true)
    (a_read_machine : PySem.W.nsIn K mainGlobals "read_machine" = some (some (.ref f_read_machine)))
    (l_read_machine : K.lookup f_read_machine = some ⟨oc_read_machine, od_read_machine, .func (PySem.W.fnOf "read_machine" "read_machine" (defArgs (topS 37)) (defBody (topS 37)) (defScope (topS 37)) .none kV_read_machine dc_read_machine pm_read_machine an_read_machine cd_read_machine ct_read_machine), sl_read_machine⟩)
    (c_read_machine : PySem.W.codeIn K cd_read_machine "read_machine" = true)
    (k_read_machine : PySem.W.keepIn K (.ref f_read_machine) = true)
    (a_is_undone : PySem.W.nsIn K mainGlobals "is_undone" = some (some (.ref f_is_undone)))
    (l_is_undone : K.lookup f_is_undone = some ⟨oc_is_undone, od_is_undone, .func (PySem.W.fnOf "is_undone" "is_undone" (defArgs (topS 38)) (defBody (topS 38)) (defScope (topS 38)) .none kV_is_undone dc_is_undone pm_is_undone an_is_undone cd_is_undone ct_is_undone), sl_is_undone⟩)
    (c_is_undone : PySem.W.codeIn K cd_is_undone "is_undone" = true)
    (k_is_undone : PySem.W.keepIn K (.ref f_is_undone) = true)
    (a_write_program : PySem.W.nsIn K mainGlobals "write_program" = some (some (.ref f_write_program)))
    (l_write_program : K.lookup f_write_program = some ⟨oc_write_program, od_write_program, .func (PySem.W.fnOf "write_program" "write_program" (defArgs (topS 39)) (defBody (topS 39)) (defScope (topS 39)) .none kV_write_program dc_write_program pm_write_program an_write_program cd_write_program ct_write_program), sl_write_program⟩)
    (c_write_program : PySem.W.codeIn K cd_write_program "write_program" = true)
    (k_write_program : PySem.W.keepIn K (.ref f_write_program) = true)
    (a_instruction_in : PySem.W.nsIn K mainGlobals "instruction_in" = some (some (.ref f_instruction_in)))
    (l_instruction_in : K.lookup f_instruction_in = some ⟨oc_instruction_in, od_instruction_in, .func (PySem.W.fnOf "instruction_in" "instruction_in" (defArgs (topS 40)) (defBody (topS 40)) (defScope (topS 40)) .none kV_instruction_in dc_instruction_in pm_instruction_in an_instruction_in cd_instruction_in ct_instruction_in), sl_instruction_in⟩)
    (c_instruction_in : PySem.W.codeIn K cd_instruction_in "instruction_in" = true)
    (k_instruction_in : PySem.W.keepIn K (.ref f_instruction_in) = true)
    (a_read_program : PySem.W.nsIn K mainGlobals "read_program" = some (some (.ref f_read_program)))
    (l_read_program : K.lookup f_read_program = some ⟨oc_read_program, od_read_program, .func (PySem.W.fnOf "read_program" "read_program" (defArgs (topS 41)) (defBody (topS 41)) (defScope (topS 41)) .none kV_read_program dc_read_program pm_read_program an_read_program cd_read_program ct_read_program), sl_read_program⟩)
    (c_read_program : PySem.W.codeIn K cd_read_program "read_program" = true)
    (k_read_program : PySem.W.keepIn K (.ref f_read_program) = true)
    (a_law_taken : PySem.W.nsIn K mainGlobals "_law_taken" = some (some (.ref f_law_taken)))
    (l_law_taken : K.lookup f_law_taken = some ⟨oc_law_taken, od_law_taken, .func (PySem.W.fnOf "_law_taken" "_law_taken" (defArgs (topS 43)) (defBody (topS 43)) (defScope (topS 43)) .none kV_law_taken dc_law_taken pm_law_taken an_law_taken cd_law_taken ct_law_taken), sl_law_taken⟩)
    (c_law_taken : PySem.W.codeIn K cd_law_taken "_law_taken" = true)
    (k_law_taken : PySem.W.keepIn K (.ref f_law_taken) = true)
    (a_law_pick : PySem.W.nsIn K mainGlobals "_law_pick" = some (some (.ref f_law_pick)))
    (l_law_pick : K.lookup f_law_pick = some ⟨oc_law_pick, od_law_pick, .func (PySem.W.fnOf "_law_pick" "_law_pick" (defArgs (topS 44)) (defBody (topS 44)) (defScope (topS 44)) .none kV_law_pick dc_law_pick pm_law_pick an_law_pick cd_law_pick ct_law_pick), sl_law_pick⟩)
    (c_law_pick : PySem.W.codeIn K cd_law_pick "_law_pick" = true)
    (k_law_pick : PySem.W.keepIn K (.ref f_law_pick) = true)
    (a_law_alike : PySem.W.nsIn K mainGlobals "_law_alike" = some (some (.ref f_law_alike)))
    (l_law_alike : K.lookup f_law_alike = some ⟨oc_law_alike, od_law_alike, .func (PySem.W.fnOf "_law_alike" "_law_alike" (defArgs (topS 45)) (defBody (topS 45)) (defScope (topS 45)) .none kV_law_alike dc_law_alike pm_law_alike an_law_alike cd_law_alike ct_law_alike), sl_law_alike⟩)
    (c_law_alike : PySem.W.codeIn K cd_law_alike "_law_alike" = true)
    (k_law_alike : PySem.W.keepIn K (.ref f_law_alike) = true)
    (a_law_row : PySem.W.nsIn K mainGlobals "_law_row" = some (some (.ref f_law_row)))
    (l_law_row : K.lookup f_law_row = some ⟨oc_law_row, od_law_row, .func (PySem.W.fnOf "_law_row" "_law_row" (defArgs (topS 46)) (defBody (topS 46)) (defScope (topS 46)) .none kV_law_row dc_law_row pm_law_row an_law_row cd_law_row ct_law_row), sl_law_row⟩)
    (c_law_row : PySem.W.codeIn K cd_law_row "_law_row" = true)
    (k_law_row : PySem.W.keepIn K (.ref f_law_row) = true)
    (a_law_stir : PySem.W.nsIn K mainGlobals "_law_stir" = some (some (.ref f_law_stir)))
    (l_law_stir : K.lookup f_law_stir = some ⟨oc_law_stir, od_law_stir, .func (PySem.W.fnOf "_law_stir" "_law_stir" (defArgs (topS 47)) (defBody (topS 47)) (defScope (topS 47)) .none kV_law_stir dc_law_stir pm_law_stir an_law_stir cd_law_stir ct_law_stir), sl_law_stir⟩)
    (c_law_stir : PySem.W.codeIn K cd_law_stir "_law_stir" = true)
    (k_law_stir : PySem.W.keepIn K (.ref f_law_stir) = true)
    (a_law_machine : PySem.W.nsIn K mainGlobals "_law_machine" = some (some (.ref f_law_machine)))
    (l_law_machine : K.lookup f_law_machine = some ⟨oc_law_machine, od_law_machine, .func (PySem.W.fnOf "_law_machine" "_law_machine" (defArgs (topS 48)) (defBody (topS 48)) (defScope (topS 48)) .none kV_law_machine dc_law_machine pm_law_machine an_law_machine cd_law_machine ct_law_machine), sl_law_machine⟩)
    (c_law_machine : PySem.W.codeIn K cd_law_machine "_law_machine" = true)
    (k_law_machine : PySem.W.keepIn K (.ref f_law_machine) = true)
    (a_law_program : PySem.W.nsIn K mainGlobals "_law_program" = some (some (.ref f_law_program)))
    (l_law_program : K.lookup f_law_program = some ⟨oc_law_program, od_law_program, .func (PySem.W.fnOf "_law_program" "_law_program" (defArgs (topS 49)) (defBody (topS 49)) (defScope (topS 49)) .none kV_law_program dc_law_program pm_law_program an_law_program cd_law_program ct_law_program), sl_law_program⟩)
    (c_law_program : PySem.W.codeIn K cd_law_program "_law_program" = true)
    (k_law_program : PySem.W.keepIn K (.ref f_law_program) = true)
    (a_law_bent_kept : PySem.W.nsIn K mainGlobals "_law_bent_kept" = some (some (.ref f_law_bent_kept)))
    (l_law_bent_kept : K.lookup f_law_bent_kept = some ⟨oc_law_bent_kept, od_law_bent_kept, .func (PySem.W.fnOf "_law_bent_kept" "_law_bent_kept" (defArgs (topS 50)) (defBody (topS 50)) (defScope (topS 50)) .none kV_law_bent_kept dc_law_bent_kept pm_law_bent_kept an_law_bent_kept cd_law_bent_kept ct_law_bent_kept), sl_law_bent_kept⟩)
    (c_law_bent_kept : PySem.W.codeIn K cd_law_bent_kept "_law_bent_kept" = true)
    (k_law_bent_kept : PySem.W.keepIn K (.ref f_law_bent_kept) = true)
    (a_law_said_session : PySem.W.nsIn K mainGlobals "_law_said_session" = some (some (.ref f_law_said_session)))
    (l_law_said_session : K.lookup f_law_said_session = some ⟨oc_law_said_session, od_law_said_session, .func (PySem.W.fnOf "_law_said_session" "_law_said_session" (defArgs (topS 51)) (defBody (topS 51)) (defScope (topS 51)) .none kV_law_said_session dc_law_said_session pm_law_said_session an_law_said_session cd_law_said_session ct_law_said_session), sl_law_said_session⟩)
    (c_law_said_session : PySem.W.codeIn K cd_law_said_session "_law_said_session" = true)
    (k_law_said_session : PySem.W.keepIn K (.ref f_law_said_session) = true)
    (a_law_loose : PySem.W.nsIn K mainGlobals "_law_loose" = some (some (.ref f_law_loose)))
    (l_law_loose : K.lookup f_law_loose = some ⟨oc_law_loose, od_law_loose, .func (PySem.W.fnOf "_law_loose" "_law_loose" (defArgs (topS 52)) (defBody (topS 52)) (defScope (topS 52)) .none kV_law_loose dc_law_loose pm_law_loose an_law_loose cd_law_loose ct_law_loose), sl_law_loose⟩)
    (c_law_loose : PySem.W.codeIn K cd_law_loose "_law_loose" = true)
    (k_law_loose : PySem.W.keepIn K (.ref f_law_loose) = true)
    (a_law_bent : PySem.W.nsIn K mainGlobals "_law_bent" = some (some (.ref f_law_bent)))
    (l_law_bent : K.lookup f_law_bent = some ⟨oc_law_bent, od_law_bent, .func (PySem.W.fnOf "_law_bent" "_law_bent" (defArgs (topS 53)) (defBody (topS 53)) (defScope (topS 53)) .none kV_law_bent dc_law_bent pm_law_bent an_law_bent cd_law_bent ct_law_bent), sl_law_bent⟩)
    (c_law_bent : PySem.W.codeIn K cd_law_bent "_law_bent" = true)
    (k_law_bent : PySem.W.keepIn K (.ref f_law_bent) = true)
    (a_law_machine_text : PySem.W.nsIn K mainGlobals "_law_machine_text" = some (some (.ref f_law_machine_text)))
    (l_law_machine_text : K.lookup f_law_machine_text = some ⟨oc_law_machine_text, od_law_machine_text, .func (PySem.W.fnOf "_law_machine_text" "_law_machine_text" (defArgs (topS 54)) (defBody (topS 54)) (defScope (topS 54)) .none kV_law_machine_text dc_law_machine_text pm_law_machine_text an_law_machine_text cd_law_machine_text ct_law_machine_text), sl_law_machine_text⟩)
    (c_law_machine_text : PySem.W.codeIn K cd_law_machine_text "_law_machine_text" = true)
    (k_law_machine_text : PySem.W.keepIn K (.ref f_law_machine_text) = true)
    (a_law : PySem.W.nsIn K mainGlobals "law" = some (some (.ref f_law)))
    (l_law : K.lookup f_law = some ⟨oc_law, od_law, .func (PySem.W.fnOf "law" "law" (defArgs (topS 55)) (defBody (topS 55)) (defScope (topS 55)) .none kV_law dc_law pm_law an_law (.ref c_law) ct_law), sl_law⟩)
    (lc_law : K.lookup c_law = some ⟨ec_law, ed_law, .fields vs_law, es_law⟩)
    (v_law : vs_law[11]? = some (.ref p_law))
    (no_law : K.lookup p_law = none)
    (cc_law : PySem.W.codeIn K (.ref c_law) "law" = true)
    (k_law : PySem.W.keepIn K (.ref f_law) = true)
    (aC : PySem.W.nsIn K mainGlobals "BadLine" = some (some (.ref C)))
    (xC : K.lookup C = some (excClassObj nm q C N bs bm true sn sub ab col dd m0 m1 m2 m3 m5 "ValueError.__new__"))
    (rC : PySem.HandSPX.refsVE bm = true)
    (sa : PySem.W.findIn K (.ref C) "__setattr__" = some (some (.builtin "object.__setattr__")))
    (ga : PySem.W.findIn K (.ref C) "__getattribute__" = some (some (.builtin "BaseException.__getattribute__")))
    (gg : PySem.W.findIn K (.ref C) "__getattr__" = some none)
    (nl : PySem.W.findIn K (.ref C) "line" = some none)
    (np : PySem.W.findIn K (.ref C) "place" = some none)
    (iC : PySem.W.findIn K (.ref C) "__init__" = some (some (.ref fI)))
    (tI : PySem.W.typeIn K (.ref fI) = some (.type "function"))
    (lI : K.lookup fI = some ⟨ocI, odI, .func (PySem.W.fnOf "__init__" "BadLine.__init__" (defArgs inS) (defBody inS) (defScope inS) .none kVI dcI pmI anI cdI ctI), slI⟩)
    (cI : PySem.W.codeIn K cdI "BadLine.__init__" = true)
    (kC : PySem.W.keepIn K (.ref C) = true)
    (eC : PySem.W.subIn K (.ref C) (.type "BaseException") = some true)
    (tC : PySem.W.typeIn K (.ref C) = some (.type "type"))
    (hC : PySem.W.hasDictIn K C = true)
    (isC : PySem.W.isClsIn K C = true)
    (sCC : PySem.W.subIn K (.ref C) (.ref C) = some true)
    (aS : PySem.W.nsIn K mainGlobals "BadString" = some (some (.ref CS)))
    (xS : PySem.W.excIn K CS [.type "ValueError", .type "Exception", .type "BaseException", .type "object"] "ValueError.__new__" = true)
    (kS : PySem.W.keepIn K (.ref CS) = true)
    (eS : PySem.W.subIn K (.ref CS) (.type "BaseException") = some true)
    (tS : PySem.W.typeIn K (.ref CS) = some (.type "type"))
    (isS : PySem.W.isClsIn K CS = true)
    (sSC : PySem.W.subIn K (.ref CS) (.ref C) = some false)
    (sSS : PySem.W.subIn K (.ref CS) (.ref CS) = some true)
    (gP : PySem.W.nsIn K mainGlobals "PRIMES" = some (some (.ref aP)))
    (lP : K.lookup aP = some ⟨.type "tuple", odP, .seq #[.int 2 tP1, .int 3 tP2, .int 5 tP3, .int 7 tP4] nP, slP⟩)
    (gG : PySem.W.nsIn K mainGlobals "SIGHTS" = some (some (.ref aG)))
    (lG : K.lookup aG = some ⟨.type "tuple", odG, .seq #[.str "get" tG1, .str "plus" tG2, .str "minus" tG3] nG, slG⟩)
    (gW : PySem.W.nsIn K mainGlobals "WRITES" = some (some (.ref aW)))
    (lW : K.lookup aW = some ⟨.type "tuple", odW, .seq #[.str "add" tW1, .str "take" tW2] nW, slW⟩)
    (gM1 : PySem.W.nsIn K mainGlobals "MOST_CELLS" = some (some (.int 4 tM1)))
    (gM2 : PySem.W.nsIn K mainGlobals "MOST_PLUGS" = some (some (.int 4 tM2)))
    (gM3 : PySem.W.nsIn K mainGlobals "MOST_STILL" = some (some (.int 20 tM3)))
    (gM4 : PySem.W.nsIn K mainGlobals "MOST_KEPT" = some (some (.int 6000 tM4)))
    (gM5 : PySem.W.nsIn K mainGlobals "FIGURES" = some (some (.str "0123456789" tM5)))
    (z_len : PySem.W.nsIn K mainGlobals "len" = some none)
    (z_range : PySem.W.nsIn K mainGlobals "range" = some none)
    (z_isinstance : PySem.W.nsIn K mainGlobals "isinstance" = some none)
    (z_int : PySem.W.nsIn K mainGlobals "int" = some none)
    (z_str : PySem.W.nsIn K mainGlobals "str" = some none)
    (z_bool : PySem.W.nsIn K mainGlobals "bool" = some none)
    (z_tuple : PySem.W.nsIn K mainGlobals "tuple" = some none)
    (z_list : PySem.W.nsIn K mainGlobals "list" = some none)
    (z_sorted : PySem.W.nsIn K mainGlobals "sorted" = some none)
    (z_min : PySem.W.nsIn K mainGlobals "min" = some none)
    (z_max : PySem.W.nsIn K mainGlobals "max" = some none)
    (z_zip : PySem.W.nsIn K mainGlobals "zip" = some none)
    (z_enumerate : PySem.W.nsIn K mainGlobals "enumerate" = some none)
    (z_all : PySem.W.nsIn K mainGlobals "all" = some none)
    (n1 : p_law ≠ p_is_row)
    (n2 : p_law ≠ p_are_rows)
    (n3 : p_law ≠ p_whole_in)
    : LamX.LawAtS l w K (L2.CX l.prog w) 12 63 "_law_script" mg fa h := by
  have e := hfa.symm.trans (PySem.W.mg_of X G a_law)
  cases e
  have TT : Tx K mg := ⟨PySem.W.mg_none_of X G z_len, PySem.W.mg_none_of X G z_range, PySem.W.mg_none_of X G z_isinstance, PySem.W.mg_none_of X G z_int, PySem.W.mg_none_of X G z_str, PySem.W.mg_none_of X G z_bool, PySem.W.mg_none_of X G z_tuple, PySem.W.mg_none_of X G z_list, PySem.W.mg_none_of X G z_sorted, PySem.W.mg_none_of X G z_min, PySem.W.mg_none_of X G z_max, PySem.W.mg_none_of X G z_zip, PySem.W.mg_none_of X G z_enumerate, PySem.W.mg_none_of X G z_all⟩
  have GG : Gx K mg aP aG aW := ⟨PySem.W.mg_of X G gP, PySem.W.mg_of X G gG, PySem.W.mg_of X G gW, frz4 lP, frzS3 lG, frzS2 lW, ⟨_, PySem.W.mg_of X G gM1⟩, ⟨_, PySem.W.mg_of X G gM2⟩, ⟨_, PySem.W.mg_of X G gM3⟩, ⟨_, PySem.W.mg_of X G gM4⟩, ⟨_, PySem.W.mg_of X G gM5⟩⟩
  have OX : OexC K C := ⟨⟨nm, q, N, bs, bm, sn, sub, ab, col, dd, m0, m1, m2, m3, m5, xC, rC⟩, sa, eC, tC, kC⟩
  have BL : BLx K mg C fI (PySem.W.fnOf "__init__" "BadLine.__init__" (defArgs inS) (defBody inS) (defScope inS) .none kVI dcI pmI anI cdI ctI) := ⟨⟨ocI, odI, .none, kVI, dcI, pmI, anI, cdI, ctI, slI, rfl, lI, cI⟩, Binds.all fun us hl => match us, hl with | [_, _, _], _ => rfl, OX, nl, np, PySem.W.mg_of X G aC, iC, tI⟩
  have BS : BSx K mg CS := ⟨xS, PySem.W.mg_of X G aS, kS, eS, tS⟩
  have EF : ExF K mg C CS := ⟨⟨ga, gg, eC, hC⟩, nl, np, PySem.W.mg_of X G aC, PySem.W.mg_of X G aS, exm_v eC isC tC sCC isC tC, exm_v eC isS tC sSC isC tS, exm_v eS isS tS sSS isS tS⟩
  have D_is_number := dfn_mk (x := "is_number") (i := 8) (ps := ["value", "low", "high"]) X G a_is_number l_is_number c_is_number k_is_number (Binds.all fun us hl => match us, hl with | [_, _, _], _ => rfl)
  have D_is_row := dfnK_mk (x := "is_row") (i := 9) (ps := ["prime", "value", "many"]) X G a_is_row l_is_row lc_is_row v_is_row no_is_row cc_is_row k_is_row (Binds.all fun us hl => match us, hl with | [_, _, _], _ => rfl)
  have D_inverse := dfn_mk (x := "inverse") (i := 10) (ps := ["prime", "number"]) X G a_inverse l_inverse c_inverse k_inverse (Binds.all fun us hl => match us, hl with | [_, _], _ => rfl)
  have D_added := dfn_mk (x := "added") (i := 11) (ps := ["prime", "one", "other", "factor"]) X G a_added l_added c_added k_added (b_added (oT := .none) (od' := none) lT_added)
  have D_scaled := dfn_mk (x := "scaled") (i := 12) (ps := ["prime", "row", "factor"]) X G a_scaled l_scaled c_scaled k_scaled (Binds.all fun us hl => match us, hl with | [_, _, _], _ => rfl)
  have D_lead := dfn_mk (x := "lead") (i := 13) (ps := ["row"]) X G a_lead l_lead c_lead k_lead (Binds.all fun us hl => match us, hl with | [_], _ => rfl)
  have D_reduced := dfn_mk (x := "reduced") (i := 14) (ps := ["prime", "rows"]) X G a_reduced l_reduced c_reduced k_reduced (Binds.all fun us hl => match us, hl with | [_, _], _ => rfl)
  have D_are_rows := dfnK_mk (x := "are_rows") (i := 18) (ps := ["prime", "value", "low", "high", "many"]) X G a_are_rows l_are_rows lc_are_rows v_are_rows no_are_rows cc_are_rows k_are_rows (Binds.all fun us hl => match us, hl with | [_, _, _, _, _], _ => rfl)
  have D_need_machine := dfn_mk (x := "need_machine") (i := 19) (ps := ["value"]) X G a_need_machine l_need_machine c_need_machine k_need_machine (Binds.all fun us hl => match us, hl with | [_], _ => rfl)
  have D_is_instruction := dfn_mk (x := "is_instruction") (i := 25) (ps := ["value", "prime", "writes", "sights", "many", "is_kept"]) X G a_is_instruction l_is_instruction c_is_instruction k_is_instruction (Binds.all fun us hl => match us, hl with | [_, _, _, _, _, _], _ => rfl)
  have D_need_rows := dfn_mk (x := "need_rows") (i := 26) (ps := ["value", "prime", "writes", "sights", "is_kept"]) X G a_need_rows l_need_rows c_need_rows k_need_rows (Binds.all fun us hl => match us, hl with | [_, _, _, _, _], _ => rfl)
  have D_words_in := dfn_mk (x := "words_in") (i := 29) (ps := ["line"]) X G a_words_in l_words_in c_words_in k_words_in (Binds.all fun us hl => match us, hl with | [_], _ => rfl)
  have D_whole_in := dfnK_mk (x := "whole_in") (i := 30) (ps := ["word", "low", "high"]) X G a_whole_in l_whole_in lc_whole_in v_whole_in no_whole_in cc_whole_in k_whole_in (Binds.all fun us hl => match us, hl with | [_, _, _], _ => rfl)
  have D_need_text := dfn_mk (x := "need_text") (i := 31) (ps := ["value"]) X G a_need_text l_need_text c_need_text k_need_text (Binds.all fun us hl => match us, hl with | [_], _ => rfl)
  have D_write_machine := dfn_mk (x := "write_machine") (i := 32) (ps := ["machine"]) X G a_write_machine l_write_machine c_write_machine k_write_machine (Binds.all fun us hl => match us, hl with | [_], _ => rfl)
  have D_lines_in := dfn_mk (x := "lines_in") (i := 33) (ps := ["text"]) X G a_lines_in l_lines_in c_lines_in k_lines_in (Binds.all fun us hl => match us, hl with | [_], _ => rfl)
  have D_number_at := dfn_mk (x := "number_at") (i := 34) (ps := ["words", "place", "high", "at"]) X G a_number_at l_number_at c_number_at k_number_at (Binds.all fun us hl => match us, hl with | [_, _, _, _], _ => rfl)
  have D_need_end := dfn_mk (x := "need_end") (i := 35) (ps := ["words", "many", "at"]) X G a_need_end l_need_end c_need_end k_need_end (Binds.all fun us hl => match us, hl with | [_, _, _], _ => rfl)
  have D_rows_at := dfn_mk (x := "rows_at") (i := 36) (ps := ["lines", "word", "prime", "many", "most"]) X G a_rows_at l_rows_at c_rows_at k_rows_at (Binds.all fun us hl => match us, hl with | [_, _, _, _, _], _ => rfl)
  have D_read_machine := dfn_mk (x := "read_machine") (i := 37) (ps := ["text"]) X G a_read_machine l_read_machine c_read_machine k_read_machine (Binds.all fun us hl => match us, hl with | [_], _ => rfl)
  have D_is_undone := dfn_mk (x := "is_undone") (i := 38) (ps := ["prime", "table"]) X G a_is_undone l_is_undone c_is_undone k_is_undone (Binds.all fun us hl => match us, hl with | [_, _], _ => rfl)
  have D_write_program := dfn_mk (x := "write_program") (i := 39) (ps := ["program"]) X G a_write_program l_write_program c_write_program k_write_program (Binds.all fun us hl => match us, hl with | [_], _ => rfl)
  have D_instruction_in := dfn_mk (x := "instruction_in") (i := 40) (ps := ["words", "at"]) X G a_instruction_in l_instruction_in c_instruction_in k_instruction_in (Binds.all fun us hl => match us, hl with | [_, _], _ => rfl)
  have D_read_program := dfn_mk (x := "read_program") (i := 41) (ps := ["text"]) X G a_read_program l_read_program c_read_program k_read_program (Binds.all fun us hl => match us, hl with | [_], _ => rfl)
  have D_law_taken := dfn_mk (x := "_law_taken") (i := 43) (ps := ["_law_row_here", "_law_many"]) X G a_law_taken l_law_taken c_law_taken k_law_taken (Binds.all fun us hl => match us, hl with | [_, _], _ => rfl)
  have D_law_pick := dfn_mk (x := "_law_pick") (i := 44) (ps := ["_law_row_here", "_law_things"]) X G a_law_pick l_law_pick c_law_pick k_law_pick (Binds.all fun us hl => match us, hl with | [_, _], _ => rfl)
  have D_law_alike := dfn_mk (x := "_law_alike") (i := 45) (ps := ["_law_found", "_law_due"]) X G a_law_alike l_law_alike c_law_alike k_law_alike (Binds.all fun us hl => match us, hl with | [_, _], _ => rfl)
  have D_law_row := dfn_mk (x := "_law_row") (i := 46) (ps := ["_law_row_here", "_law_prime", "_law_many"]) X G a_law_row l_law_row c_law_row k_law_row (Binds.all fun us hl => match us, hl with | [_, _, _], _ => rfl)
  have D_law_stir := dfn_mk (x := "_law_stir") (i := 47) (ps := ["_law_row_here", "_law_prime", "_law_many"]) X G a_law_stir l_law_stir c_law_stir k_law_stir (Binds.all fun us hl => match us, hl with | [_, _, _], _ => rfl)
  have D_law_machine := dfn_mk (x := "_law_machine") (i := 48) (ps := ["_law_row_here", "_law_primes", "_law_cells", "_law_plugs"]) X G a_law_machine l_law_machine c_law_machine k_law_machine (Binds.all fun us hl => match us, hl with | [_, _, _, _], _ => rfl)
  have D_law_program := dfn_mk (x := "_law_program") (i := 49) (ps := ["_law_row_here", "_law_prime", "_law_values", "_law_most"]) X G a_law_program l_law_program c_law_program k_law_program (Binds.all fun us hl => match us, hl with | [_, _, _, _], _ => rfl)
  have D_law_bent_kept := dfn_mk (x := "_law_bent_kept") (i := 50) (ps := ["_law_row_here", "_law_machine_here", "_law_program_here"]) X G a_law_bent_kept l_law_bent_kept c_law_bent_kept k_law_bent_kept (Binds.all fun us hl => match us, hl with | [_, _, _], _ => rfl)
  have D_law_said_session := dfn_mk (x := "_law_said_session") (i := 51) (ps := ["_law_work"]) X G a_law_said_session l_law_said_session c_law_said_session k_law_said_session (Binds.all fun us hl => match us, hl with | [_], _ => rfl)
  have D_law_loose := dfn_mk (x := "_law_loose") (i := 52) (ps := ["_law_row_here", "_law_text"]) X G a_law_loose l_law_loose c_law_loose k_law_loose (Binds.all fun us hl => match us, hl with | [_, _], _ => rfl)
  have D_law_bent := dfn_mk (x := "_law_bent") (i := 53) (ps := ["_law_row_here", "_law_text", "_law_words"]) X G a_law_bent l_law_bent c_law_bent k_law_bent (Binds.all fun us hl => match us, hl with | [_, _, _], _ => rfl)
  have D_law_machine_text := dfn_mk (x := "_law_machine_text") (i := 54) (ps := ["_law_machine_here"]) X G a_law_machine_text l_law_machine_text c_law_machine_text k_law_machine_text (Binds.all fun us hl => match us, hl with | [_], _ => rfl)
  have D_law := dfnK_mk (x := "law") (i := 55) (ps := ["_law_script"]) X G a_law l_law lc_law v_law no_law cc_law k_law (Binds.all fun us hl => match us, hl with | [_], _ => rfl)
  obtain ⟨ch_is_row, em_is_row⟩ := tabs "is_row" (by simp) _ _ D_is_row.tab
  obtain ⟨ch_are_rows, em_are_rows⟩ := tabs "are_rows" (by simp) _ _ D_are_rows.tab
  obtain ⟨ch_whole_in, em_whole_in⟩ := tabs "whole_in" (by simp) _ _ D_whole_in.tab
  obtain ⟨ch_law, em_law⟩ := tabs "law" (by simp) _ _ D_law.tab
  refine ⟨PySem.W.fnOf "law" "law" (defArgs (topS 55)) (defBody (topS 55)) (defScope (topS 55)) .none kV_law dc_law pm_law an_law (.ref c_law) ct_law, [(c_is_row, p_is_row), (c_are_rows, p_are_rows), (c_whole_in, p_whole_in), (c_law, p_law)], spLaw K [(p_law, lamQ)] [p_is_row, p_are_rows, p_whole_in], ?_, ?_, ?_, fun s u => .of_eq rfl, fun H a ns hl hz hH hS => ⟨a, ns, rfl, hS, ⟨fun z hz => ?_, fun z hz => ?_⟩, fun H' => rfl⟩, fun base hK hN hTB => ?_⟩
  · intro z hz
    simp only [List.mem_cons, List.not_mem_nil, or_false] at hz
    rcases hz with rfl | rfl | rfl | rfl
    · exact em_is_row
    · exact em_are_rows
    · exact em_whole_in
    · exact em_law
  · intro z hz
    simp only [List.mem_cons, List.not_mem_nil, or_false] at hz
    rcases hz with rfl | rfl | rfl | rfl
    · exact D_is_row.no
    · exact D_are_rows.no
    · exact D_whole_in.no
    · exact D_law.no
  · intro z hz
    simp only [List.mem_cons, List.not_mem_nil, or_false] at hz
    rcases hz with rfl | rfl | rfl | rfl
    · exact ch_is_row
    · exact ch_are_rows
    · exact ch_whole_in
    · exact ch_law
  · simp only [List.mem_cons, List.not_mem_nil, or_false] at hz
    rcases hz with hz | hz | hz
    · rw [hz]
      exact ⟨_, hH (c_is_row, p_is_row) (by simp), trivial⟩
    · rw [hz]
      exact ⟨_, hH (c_are_rows, p_are_rows) (by simp), trivial⟩
    · rw [hz]
      exact ⟨_, hH (c_whole_in, p_whole_in) (by simp), trivial⟩
  · rw [List.mem_singleton.mp hz]
    exact LamX.TabS.nil (hH (c_law, p_law) (by simp))
  · exact all_ok TT GG BL BS EF D_is_number D_is_row (hTB (c_is_row, p_is_row) (by simp)) D_inverse D_added D_scaled D_lead D_reduced D_are_rows (hTB (c_are_rows, p_are_rows) (by simp)) D_need_machine D_is_instruction D_need_rows D_words_in D_whole_in (hTB (c_whole_in, p_whole_in) (by simp)) D_need_text D_write_machine D_lines_in D_number_at D_need_end D_rows_at D_read_machine D_is_undone D_write_program D_instruction_in D_read_program D_law_taken D_law_pick D_law_alike D_law_row D_law_stir D_law_machine D_law_program D_law_bent_kept D_law_said_session D_law_loose D_law_bent D_law_machine_text D_law (hTB (c_law, p_law) (by simp)) n1 n2 n3
end K11
open PySem PySem.W PyProof.Rows
set_option maxRecDepth 100000 in
set_option maxHeartbeats 0 in
theorem PySem.Challenge.cw_driftstore_k11_whole_texts_holds : PySem.Challenge.rw_driftstore_k11_whole_texts.Holds := by
  w_on; o_law; k_head; (case hw => w_witness2)
  k_fill
  refine K11.walk_tabs (l := PySem.Challenge.rw_driftstore_k11_whole_texts) (n := 63) (k := 12) (x := "_law_script") (CX := fun w => L2.CX (PySem.Challenge.rw_driftstore_k11_whole_texts).prog w) ["is_row", "are_rows", "whole_in", "law"] rfl (by decide) rfl ⟨rfl, by decide, by decide⟩ (by kernel_rfl) (fun w h Y => PySem.W.km_in_of Y) ?F ?Z
  case Z =>
    rintro w H s e s' ⟨a, B, H', cls, d, _, _, _, _, _, _, _, z⟩
    exact z.elim
  case F =>
    intro w mg fa h Y KX G hmg tabs
    refine' K11.all_mk KX G hmg tabs ?a_is_number ?l_is_number ?c_is_number ?k_is_number ?a_is_row ?l_is_row ?lc_is_row ?v_is_row ?no_is_row ?cc_is_row ?k_is_row ?a_inverse ?l_inverse ?c_inverse ?k_inverse ?a_added ?l_added ?lT_added ?c_added ?k_added ?a_scaled ?l_scaled ?c_scaled ?k_scaled ?a_lead ?l_lead ?c_lead ?k_lead ?a_reduced ?l_reduced ?c_reduced ?k_reduced ?a_are_rows ?l_are_rows ?lc_are_rows ?v_are_rows ?no_are_rows ?cc_are_rows ?k_are_rows ?a_need_machine ?l_need_machine ?c_need_machine ?k_need_machine ?a_is_instruction ?l_is_instruction ?c_is_instruction ?k_is_instruction ?a_need_rows ?l_need_rows ?c_need_rows ?k_need_rows ?a_words_in ?l_words_in ?c_words_in ?k_words_in ?a_whole_in ?l_whole_in ?lc_whole_in ?v_whole_in ?no_whole_in ?cc_whole_in ?k_whole_in ?a_need_text ?l_need_text ?c_need_text ?k_need_text ?a_write_machine ?l_write_machine ?c_write_machine ?k_write_machine ?a_lines_in ?l_lines_in ?c_lines_in ?k_lines_in ?a_number_at ?l_number_at ?c_number_at ?k_number_at ?a_need_end ?l_need_end ?c_need_end ?k_need_end ?a_rows_at ?l_rows_at ?c_rows_at ?k_rows_at ?a_read_machine ?l_read_machine ?c_read_machine ?k_read_machine ?a_is_undone ?l_is_undone ?c_is_undone ?k_is_undone ?a_write_program ?l_write_program ?c_write_program ?k_write_program ?a_instruction_in ?l_instruction_in ?c_instruction_in ?k_instruction_in ?a_read_program ?l_read_program ?c_read_program ?k_read_program ?a_law_taken ?l_law_taken ?c_law_taken ?k_law_taken ?a_law_pick ?l_law_pick ?c_law_pick ?k_law_pick ?a_law_alike ?l_law_alike ?c_law_alike ?k_law_alike ?a_law_row ?l_law_row ?c_law_row ?k_law_row ?a_law_stir ?l_law_stir ?c_law_stir ?k_law_stir ?a_law_machine ?l_law_machine ?c_law_machine ?k_law_machine ?a_law_program ?l_law_program ?c_law_program ?k_law_program ?a_law_bent_kept ?l_law_bent_kept ?c_law_bent_kept ?k_law_bent_kept ?a_law_said_session ?l_law_said_session ?c_law_said_session ?k_law_said_session ?a_law_loose ?l_law_loose ?c_law_loose ?k_law_loose ?a_law_bent ?l_law_bent ?c_law_bent ?k_law_bent ?a_law_machine_text ?l_law_machine_text ?c_law_machine_text ?k_law_machine_text ?a_law ?l_law ?lc_law ?v_law ?no_law ?cc_law ?k_law ?aC ?xC ?rC ?sa ?ga ?gg ?nl ?np ?iC ?tI ?lI ?cI ?kC ?eC ?tC ?hC ?isC ?sCC ?aS ?xS ?kS ?eS ?tS ?isS ?sSC ?sSS ?gP ?lP ?gG ?lG ?gW ?lW ?gM1 ?gM2 ?gM3 ?gM4 ?gM5 ?z_len ?z_range ?z_isinstance ?z_int ?z_str ?z_bool ?z_tuple ?z_list ?z_sorted ?z_min ?z_max ?z_zip ?z_enumerate ?z_all ?n1 ?n2 ?n3
    (case a_is_number => k_is)
    (case l_is_number => k_is)
    (case c_is_number => k_is)
    (case k_is_number => k_is)
    (case a_is_row => k_is)
    (case l_is_row => k_is)
    (case lc_is_row => k_is)
    (case v_is_row => rfl)
    (case no_is_row => kernel_rfl)
    (case cc_is_row => k_is)
    (case k_is_row => k_is)
    (case a_inverse => k_is)
    (case l_inverse => k_is)
    (case c_inverse => k_is)
    (case k_inverse => k_is)
    (case a_added => k_is)
    (case l_added => k_is)
    (case lT_added => k_is)
    (case c_added => k_is)
    (case k_added => k_is)
    (case a_scaled => k_is)
    (case l_scaled => k_is)
    (case c_scaled => k_is)
    (case k_scaled => k_is)
    (case a_lead => k_is)
    (case l_lead => k_is)
    (case c_lead => k_is)
    (case k_lead => k_is)
    (case a_reduced => k_is)
    (case l_reduced => k_is)
    (case c_reduced => k_is)
    (case k_reduced => k_is)
    (case a_are_rows => k_is)
    (case l_are_rows => k_is)
    (case lc_are_rows => k_is)
    (case v_are_rows => rfl)
    (case no_are_rows => kernel_rfl)
    (case cc_are_rows => k_is)
    (case k_are_rows => k_is)
    (case a_need_machine => k_is)
    (case l_need_machine => k_is)
    (case c_need_machine => k_is)
    (case k_need_machine => k_is)
    (case a_is_instruction => k_is)
    (case l_is_instruction => k_is)
    (case c_is_instruction => k_is)
    (case k_is_instruction => k_is)
    (case a_need_rows => k_is)
    (case l_need_rows => k_is)
    (case c_need_rows => k_is)
    (case k_need_rows => k_is)
    (case a_words_in => k_is)
    (case l_words_in => k_is)
    (case c_words_in => k_is)
    (case k_words_in => k_is)
    (case a_whole_in => k_is)
    (case l_whole_in => k_is)
    (case lc_whole_in => k_is)
    (case v_whole_in => rfl)
    (case no_whole_in => kernel_rfl)
    (case cc_whole_in => k_is)
    (case k_whole_in => k_is)
    (case a_need_text => k_is)
    (case l_need_text => k_is)
    (case c_need_text => k_is)
    (case k_need_text => k_is)
    (case a_write_machine => k_is)
    (case l_write_machine => k_is)
    (case c_write_machine => k_is)
    (case k_write_machine => k_is)
    (case a_lines_in => k_is)
    (case l_lines_in => k_is)
    (case c_lines_in => k_is)
    (case k_lines_in => k_is)
    (case a_number_at => k_is)
    (case l_number_at => k_is)
    (case c_number_at => k_is)
    (case k_number_at => k_is)
    (case a_need_end => k_is)
    (case l_need_end => k_is)
    (case c_need_end => k_is)
    (case k_need_end => k_is)
    (case a_rows_at => k_is)
    (case l_rows_at => k_is)
    (case c_rows_at => k_is)
    (case k_rows_at => k_is)
    (case a_read_machine => k_is)
    (case l_read_machine => k_is)
    (case c_read_machine => k_is)
    (case k_read_machine => k_is)
    (case a_is_undone => k_is)
    (case l_is_undone => k_is)
    (case c_is_undone => k_is)
    (case k_is_undone => k_is)
    (case a_write_program => k_is)
    (case l_write_program => k_is)
    (case c_write_program => k_is)
    (case k_write_program => k_is)
    (case a_instruction_in => k_is)
    (case l_instruction_in => k_is)
    (case c_instruction_in => k_is)
    (case k_instruction_in => k_is)
    (case a_read_program => k_is)
    (case l_read_program => k_is)
    (case c_read_program => k_is)
    (case k_read_program => k_is)
    (case a_law_taken => k_is)
    (case l_law_taken => k_is)
    (case c_law_taken => k_is)
    (case k_law_taken => k_is)
    (case a_law_pick => k_is)
    (case l_law_pick => k_is)
    (case c_law_pick => k_is)
    (case k_law_pick => k_is)
    (case a_law_alike => k_is)
    (case l_law_alike => k_is)
    (case c_law_alike => k_is)
    (case k_law_alike => k_is)
    (case a_law_row => k_is)
    (case l_law_row => k_is)
    (case c_law_row => k_is)
    (case k_law_row => k_is)
    (case a_law_stir => k_is)
    (case l_law_stir => k_is)
    (case c_law_stir => k_is)
    (case k_law_stir => k_is)
    (case a_law_machine => k_is)
    (case l_law_machine => k_is)
    (case c_law_machine => k_is)
    (case k_law_machine => k_is)
    (case a_law_program => k_is)
    (case l_law_program => k_is)
    (case c_law_program => k_is)
    (case k_law_program => k_is)
    (case a_law_bent_kept => k_is)
    (case l_law_bent_kept => k_is)
    (case c_law_bent_kept => k_is)
    (case k_law_bent_kept => k_is)
    (case a_law_said_session => k_is)
    (case l_law_said_session => k_is)
    (case c_law_said_session => k_is)
    (case k_law_said_session => k_is)
    (case a_law_loose => k_is)
    (case l_law_loose => k_is)
    (case c_law_loose => k_is)
    (case k_law_loose => k_is)
    (case a_law_bent => k_is)
    (case l_law_bent => k_is)
    (case c_law_bent => k_is)
    (case k_law_bent => k_is)
    (case a_law_machine_text => k_is)
    (case l_law_machine_text => k_is)
    (case c_law_machine_text => k_is)
    (case k_law_machine_text => k_is)
    (case a_law => k_is)
    (case l_law => k_is)
    (case lc_law => k_is)
    (case v_law => rfl)
    (case no_law => kernel_rfl)
    (case cc_law => k_is)
    (case k_law => k_is)
    (case aC => k_is)
    (case xC => k_is)
    (case rC => decide +kernel)
    (case sa => k_is)
    (case ga => k_is)
    (case gg => k_is)
    (case nl => k_is)
    (case np => k_is)
    (case iC => k_is)
    (case tI => k_is)
    (case lI => k_is)
    (case cI => k_is)
    (case kC => k_is)
    (case eC => k_is)
    (case tC => k_is)
    (case hC => k_is)
    (case isC => k_is)
    (case sCC => first | rfl | k_is)
    (case aS => k_is)
    (case xS => k_exc)
    (case kS => k_is)
    (case eS => k_is)
    (case tS => k_is)
    (case isS => k_is)
    (case sSC => k_is)
    (case sSS => first | rfl | k_is)
    (case gP => k_is)
    (case lP => k_is)
    (case gG => k_is)
    (case lG => k_is)
    (case gW => k_is)
    (case lW => k_is)
    (case gM1 => k_is)
    (case gM2 => k_is)
    (case gM3 => k_is)
    (case gM4 => k_is)
    (case gM5 => k_is)
    (case z_len => k_is)
    (case z_range => k_is)
    (case z_isinstance => k_is)
    (case z_int => k_is)
    (case z_str => k_is)
    (case z_bool => k_is)
    (case z_tuple => k_is)
    (case z_list => k_is)
    (case z_sorted => k_is)
    (case z_min => k_is)
    (case z_max => k_is)
    (case z_zip => k_is)
    (case z_enumerate => k_is)
    (case z_all => k_is)
    (case n1 => decide)
    (case n2 => decide)
    (case n3 => decide)
