import PyProof.Rows.All
import Wide.All
import OpenK.AllK
import Wide.FinOn
import HandS.ForMost
import HandS.Wide
import HandS.TupAny
import HandS.IsInst
import HandS.Evl
import HandS.Flow
import HandS.Defaults
import OpenK.KOps
import HandS.ExcInit
import HandS.ExcField
import HandS.ExcSuper
import KE.KExcSuper
import HandS.WordsExc
import HandS.ExcOwn
import HandS.OwnEq
import HandS.HeadHook2
import PySem.Challenge.RW_hushedwires_k20_whole_hums_through_known
set_option Elab.async false
set_option linter.all false
set_option maxRecDepth 100000
set_option maxHeartbeats 4000000
set_option exponentiation.threshold 10000
/-! Dl: data without a heap; what an expression, a statement comes to on data. -/
namespace K20
open PySem L2
open Evl (Ex)
/-! ### data, and what bears it -/
inductive Dt where
  | non | bl (b : Bool) | int (i : Int) | str (x : Str) | lst (xs : List Dt) | tup (xs : List Dt)
  | ob (C : Addr) (ns : List Str) (ds : List Dt)
  | scr (ns : List Int)
mutual
inductive Rep (K : PySem.W.Frag) (G : Hp) : V → Dt → Prop
  | non : Rep K G .non .non
  | bl (b : Bool) : Rep K G (.bl b) (.bl b)
  | int (i : Int) : Rep K G (.int i) (.int i)
  | str (x : Str) : Rep K G (.str x) (.str x)
  | lst {a : Addr} {ys : List V} {ds : List Dt} : G a = some (.lst ys) → Reps K G ys ds → Rep K G (.ref a) (.lst ds)
  | tup {a : Addr} {ys : List V} {ds : List Dt} : SqT K G a ys → Reps K G ys ds → Rep K G (.ref a) (.tup ds)
  | ob {a C dx : Addr} {ns : List Str} {ys : List V} {ds : List Dt} : G a = some (.ins C dx (ns.zip ys)) → ns.length = ys.length → Reps K G ys ds → Rep K G (.ref a) (.ob C ns ds)
  | scr {a : Addr} {ns : List Int} : SqL K G a (ns.map V.int) → Rep K G (.ref a) (.scr ns)
inductive Reps (K : PySem.W.Frag) (G : Hp) : List V → List Dt → Prop
  | nil : Reps K G [] []
  | cons {v : V} {vs : List V} {d : Dt} {ds : List Dt} : Rep K G v d → Reps K G vs ds → Reps K G (v :: vs) (d :: ds)
end
section
variable {K : PySem.W.Frag} {G G' : Hp}
mutual
theorem Rep.mono (e : Ex G G') : ∀ {v : V} {d : Dt}, Rep K G v d → Rep K G' v d
  | _, _, .non => .non
  | _, _, .bl b => .bl b
  | _, _, .int i => .int i
  | _, _, .str x => .str x
  | _, _, .lst h r => .lst (e _ _ h) (Reps.mono e r)
  | _, _, .tup h r => .tup (Evl.ex_t e h) (Reps.mono e r)
  | _, _, .ob h l r => .ob (e _ _ h) l (Reps.mono e r)
  | _, _, .scr h => .scr (Evl.ex_l e h)
theorem Reps.mono (e : Ex G G') : ∀ {vs : List V} {ds : List Dt}, Reps K G vs ds → Reps K G' vs ds
  | _, _, .nil => .nil
  | _, _, .cons h r => .cons (Rep.mono e h) (Reps.mono e r)
end
theorem Reps.length : ∀ {vs : List V} {ds : List Dt}, Reps K G vs ds → vs.length = ds.length
  | _, _, .nil => rfl
  | _, _, .cons _ r => congrArg Nat.succ (Reps.length r)
theorem Reps.get : ∀ {vs : List V} {ds : List Dt} {i : Nat} {d : Dt}, Reps K G vs ds → ds[i]? = some d → ∃ v, vs[i]? = some v ∧ Rep K G v d
  | _, _, _, _, .nil, h => by simp at h
  | _, _, 0, _, .cons h _, e => by simp at e; subst e; exact ⟨_, rfl, h⟩
  | _, _, i + 1, _, .cons _ r, e => by
    obtain ⟨v, h1, h2⟩ := Reps.get (i := i) r (by simpa using e)
    exact ⟨v, by simpa using h1, h2⟩
theorem Reps.getV : ∀ {vs : List V} {ds : List Dt} {i : Nat} {v : V}, Reps K G vs ds → vs[i]? = some v → ∃ d, ds[i]? = some d ∧ Rep K G v d
  | _, _, _, _, .nil, h => by simp at h
  | _, _, 0, _, .cons h _, e => by simp at e; subst e; exact ⟨_, rfl, h⟩
  | _, _, i + 1, _, .cons _ r, e => by
    obtain ⟨v, h1, h2⟩ := Reps.getV (i := i) r (by simpa using e)
    exact ⟨v, by simpa using h1, h2⟩
theorem Reps.append : ∀ {vs us : List V} {ds es : List Dt}, Reps K G vs ds → Reps K G us es → Reps K G (vs ++ us) (ds ++ es)
  | _, _, _, _, .nil, s => s
  | _, _, _, _, .cons h r, s => .cons h (Reps.append r s)
theorem Reps.take : ∀ {vs : List V} {ds : List Dt} (n : Nat), Reps K G vs ds → Reps K G (vs.take n) (ds.take n)
  | _, _, 0, _ => .nil
  | _, _, _ + 1, .nil => .nil
  | _, _, n + 1, .cons h r => .cons h (Reps.take n r)
theorem Reps.drop : ∀ {vs : List V} {ds : List Dt} (n : Nat), Reps K G vs ds → Reps K G (vs.drop n) (ds.drop n)
  | _, _, 0, r => r
  | _, _, _ + 1, .nil => .nil
  | _, _, n + 1, .cons _ r => Reps.drop n r
theorem Reps.set {v : V} {d : Dt} (h : Rep K G v d) : ∀ {vs : List V} {ds : List Dt} (i : Nat), Reps K G vs ds → Reps K G (vs.set i v) (ds.set i d)
  | _, _, _, .nil => .nil
  | _, _, 0, .cons _ r => .cons h r
  | _, _, i + 1, .cons q r => .cons q (Reps.set h i r)
theorem Reps.one {v : V} {d : Dt} (h : Rep K G v d) : Reps K G [v] [d] := .cons h .nil
theorem Reps.ints : ∀ (ns : List Int), Reps K G (ns.map V.int) (ns.map Dt.int)
  | [] => .nil
  | n :: ns => .cons (.int n) (Reps.ints ns)
theorem Reps.replicate {v : V} {d : Dt} (h : Rep K G v d) : ∀ n : Nat, Reps K G (List.replicate n v) (List.replicate n d)
  | 0 => .nil
  | n + 1 => .cons h (Reps.replicate h n)
theorem Reps.flat {vs : List V} {ds : List Dt} (h : Reps K G vs ds) : ∀ k : Nat, Reps K G (List.replicate k vs).flatten (List.replicate k ds).flatten
  | 0 => .nil
  | k + 1 => by
    rw [List.replicate_succ, List.replicate_succ, List.flatten_cons, List.flatten_cons]
    exact Reps.append h (Reps.flat h k)
end
/-! ### the hand: a list of a list of ints and three ints -/
structure HandI (cs : List Int) (i r t : Int) : Prop where
  c0 : ∀ x ∈ cs, 0 ≤ x
  cl : cs.length ≤ 63
  i0 : 0 ≤ i
  i1 : i ≤ cs.length
  r0 : 0 ≤ r
  t0 : 0 ≤ t
  t1 : t < 2147483629
def HandAt (K : PySem.W.Frag) (G H : Hp) (l : Addr) : Prop :=
  G l = none ∧ ∃ (c : Addr) (cs : List Int) (i r t : Int), H l = some (.lst [.ref c, .int i, .int r, .int t]) ∧ Rep K G (.ref c) (.lst (cs.map Dt.int)) ∧ HandI cs i r t
/-! ### slots, states -/
inductive Sl where
  | no | dt (d : Dt) | own (xs : List Dt) | hand | raw (v : V)
structure Ctx where
  K : PySem.W.Frag
  G0 : Hp
  H0 : Hp
  hand : Option Addr
structure Gd (c : Ctx) (G H : Hp) : Prop where
  gh : Ex G H
  g0 : Ex c.G0 G
  fr : ∀ a, c.H0 a ≠ none → c.G0 a = none → G a = none ∧ (c.hand ≠ some a → H a = c.H0 a)
  hd : ∀ l, c.hand = some l → c.H0 l ≠ none ∧ c.G0 l = none ∧ HandAt c.K G H l
def SlOk (c : Ctx) (G H : Hp) (o : Option (Option V)) : Sl → Prop
  | .no => True
  | .dt d => ∃ v, o = some (some v) ∧ Rep c.K G v d
  | .own xs => ∃ (a : Addr) (ys : List V), o = some (some (.ref a)) ∧ G a = none ∧ c.H0 a = none ∧ H a = some (.lst ys) ∧ Reps c.K G ys xs
  | .hand => ∃ l : Addr, o = some (some (.ref l)) ∧ c.hand = some l
  | .raw v => o = some (some v)
structure Env (c : Ctx) (σ : L2.St) (G H : Hp) (ρ : List Sl) : Prop where
  gd : Gd c G H
  len : σ.length = ρ.length
  sl : ∀ (i : Nat) (s : Sl), ρ[i]? = some s → SlOk c G H σ[i]? s
  own : ∀ (i j : Nat) (xs ys : List Dt) (a : Addr), ρ[i]? = some (.own xs) → ρ[j]? = some (.own ys) → σ[i]? = some (some (.ref a)) → σ[j]? = some (some (.ref a)) → i = j
/-- a step: the frozen part grows, what stands outside it stays (but the hand) -/
structure Stp (c : Ctx) (G H G' H' : Hp) : Prop where
  gg : Ex G G'
  gh : Ex G' H'
  fr : ∀ a, H a ≠ none → G a = none → G' a = none ∧ (c.hand ≠ some a → H' a = H a)
  hd : ∀ l, c.hand = some l → HandAt c.K G' H' l
theorem HandAt.stay {K : PySem.W.Frag} {G H G' H' : Hp} {l : Addr} (h : HandAt K G H l) (gg : Ex G G') (g : G' l = none) (e : H' l = H l) : HandAt K G' H' l := by
  obtain ⟨_, c, cs, i, r, t, h1, h2, h3⟩ := h
  exact ⟨g, c, cs, i, r, t, by rw [e]; exact h1, h2.mono gg, h3⟩
theorem HandAt.some {K : PySem.W.Frag} {G H : Hp} {l : Addr} (h : HandAt K G H l) : H l ≠ none := by
  obtain ⟨_, _, _, _, _, _, h1, _⟩ := h
  rw [h1]
  exact fun z => by cases z
section
variable {c : Ctx} {G H G' H' G2 H2 : Hp} {σ : L2.St} {ρ : List Sl} {a p : Addr} {o : HO}
theorem Ex.sub_none (e : Ex G H) (h : H a = none) : G a = none := Evl.fresh_back e h
theorem Gd.step (g : Gd c G H) (s : Stp c G H G' H') : Gd c G' H' where
  gh := s.gh
  g0 := g.g0.trans s.gg
  fr := fun a h1 h2 => by
    obtain ⟨q1, q2⟩ := g.fr a h1 h2
    by_cases hh : c.hand = Option.some a
    · have h3 := (g.hd a hh).2.2
      exact ⟨(s.fr a h3.some h3.1).1, fun z => absurd hh z⟩
    · have q3 := q2 hh
      have q4 : H a ≠ none := by rw [q3]; exact h1
      obtain ⟨q5, q6⟩ := s.fr a q4 q1
      exact ⟨q5, fun z => (q6 z).trans q3⟩
  hd := fun l e => ⟨(g.hd l e).1, (g.hd l e).2.1, s.hd l e⟩
theorem Stp.trans (s : Stp c G H G' H') (t : Stp c G' H' G2 H2) : Stp c G H G2 H2 where
  gg := s.gg.trans t.gg
  gh := t.gh
  fr := fun a h1 h2 => by
    obtain ⟨q1, q2⟩ := s.fr a h1 h2
    by_cases hh : c.hand = Option.some a
    · have h3 := s.hd a hh
      exact ⟨(t.fr a h3.some h3.1).1, fun z => absurd hh z⟩
    · have q3 := q2 hh
      have q4 : H' a ≠ none := by rw [q3]; exact h1
      obtain ⟨q5, q6⟩ := t.fr a q4 q1
      exact ⟨q5, fun z => (q6 z).trans q3⟩
  hd := t.hd
theorem Gd.refl (g : Gd c G H) : Stp c G H G H := ⟨Ex.refl G, g.gh, fun a h1 h2 => ⟨h2, fun _ => rfl⟩, fun l e => (g.hd l e).2.2⟩
theorem Gd.stp (g : Gd c G H) (gg : Ex G G') (gh : Ex G' H') (fr : ∀ a, H a ≠ none → G a = none → G' a = none ∧ H' a = H a) : Stp c G H G' H' :=
  ⟨gg, gh, fun a h1 h2 => ⟨(fr a h1 h2).1, fun _ => (fr a h1 h2).2⟩, fun l e => by
    have h3 := (g.hd l e).2.2
    obtain ⟨q1, q2⟩ := fr l h3.some h3.1
    exact h3.stay gg q1 q2⟩
/-- a new thing, frozen -/
theorem Gd.new (g : Gd c G H) (h : H p = none) : Stp c G H (upd G p o) (upd H p o) := by
  refine g.stp (Ex.new (Ex.sub_none g.gh h)) (fun b u e => ?_) fun b h1 h2 => ?_
  · by_cases hb : b = p
    · subst hb
      rw [upd_same] at e ⊢
      exact e
    · rw [upd_ne hb] at e ⊢
      exact g.gh _ _ e
  · have hb : b ≠ p := fun z => h1 (by rw [z]; exact h)
    rw [upd_ne hb, upd_ne hb]
    exact ⟨h2, rfl⟩
/-- a new thing, one's own -/
theorem Gd.newOwn (g : Gd c G H) (h : H p = none) : Stp c G H G (upd H p o) := by
  refine g.stp (Ex.refl G) (fun b u e => ?_) fun b h1 h2 => ?_
  · rw [upd_ne (fun z => by rw [z, Ex.sub_none g.gh h] at e; cases e)]
    exact g.gh _ _ e
  · have hb : b ≠ p := fun z => h1 (by rw [z]; exact h)
    rw [upd_ne hb]
    exact ⟨h2, rfl⟩
theorem Gd.h0 (g : Gd c G H) (h : H p = none) : c.H0 p = none := by
  cases q : c.H0 p with
  | none => rfl
  | some u =>
    have q1 : c.H0 p ≠ none := by rw [q]; exact fun z => by cases z
    cases q2 : c.G0 p with
    | some v =>
      have := g.gh _ _ (g.g0 _ _ q2)
      rw [h] at this
      cases this
    | none =>
      obtain ⟨_, q3⟩ := g.fr p q1 q2
      by_cases hh : c.hand = Option.some p
      · exact absurd h (g.hd p hh).2.2.some
      · rw [q3 hh, q] at h
        cases h
theorem SlOk.step {o : Option (Option V)} {s : Sl} (h : SlOk c G H o s) (t : Stp c G H G' H') (g : Gd c G H) : SlOk c G' H' o s := by
  cases s with
  | no => trivial
  | dt d =>
    obtain ⟨v, e, r⟩ := h
    exact ⟨v, e, r.mono t.gg⟩
  | own xs =>
    obtain ⟨a, ys, e, h1, h2, h3, r⟩ := h
    have h4 : H a ≠ none := by rw [h3]; exact fun z => by cases z
    obtain ⟨q1, q2⟩ := t.fr a h4 h1
    refine ⟨a, ys, e, q1, h2, ?_, r.mono t.gg⟩
    rw [q2 (fun z => (g.hd a z).1 h2)]
    exact h3
  | hand => exact h
  | raw v => exact h
theorem Env.step (E : Env c σ G H ρ) (t : Stp c G H G' H') : Env c σ G' H' ρ :=
  ⟨E.gd.step t, E.len, fun i s e => (E.sl i s e).step t E.gd, E.own⟩
end
/-! ### what an expression comes to -/
section
variable (c : Ctx)
def DE (te : TE) (ρ : List Sl) (P : Dt → Prop) : Prop := ∀ σ G H, Env c σ G H ρ → ∀ Q : VK, (∀ v d G' H', Stp c G H G' H' → Rep c.K G' v d → P d → Q v H') → te σ H Q
def DT (tt : TT) (ρ : List Sl) (P : Bool → Prop) : Prop := ∀ σ G H, Env c σ G H ρ → ∀ Q : Bool → Hp → Prop, (∀ b G' H', Stp c G H G' H' → P b → Q b H') → tt σ H Q
def DA (ta : TA) (ρ : List Sl) (P : List Dt → Prop) : Prop := ∀ σ G H, Env c σ G H ρ → ∀ Q : List V → Hp → Prop, (∀ vs ds G' H', Stp c G H G' H' → Reps c.K G' vs ds → P ds → Q vs H') → ta σ H Q
/-- a new list, one's own -/
def DL (te : TE) (ρ : List Sl) (P : List Dt → Prop) : Prop := ∀ σ G H, Env c σ G H ρ → ∀ Q : VK, (∀ p ys xs G' H', Stp c G H G' H' → H p = none → G' p = none → H' p = some (.lst ys) → Reps c.K G' ys xs → P xs → Q (.ref p) H') → te σ H Q
/-- a part of a slice -/
def DO (to : TO) (ρ : List Sl) (P : Option Int → Prop) : Prop := ∀ σ G H, Env c σ G H ρ → ∀ Q : Option Int → Hp → Prop, (∀ o G' H', Stp c G H G' H' → P o → Q o H') → to σ H Q
end
structure DEn where
  nx : List Sl → Prop
  rt : List Sl → Dt → Prop
  bk : List Sl → Prop := fun _ => False
  ct : List Sl → Prop := fun _ => False
def DS (c : Ctx) (ts : TS) (ρ : List Sl) (E : DEn) : Prop := ∀ σ G H, Env c σ G H ρ → ∀ D : Ends,
  (∀ σ' G' H' ρ', Ex G G' → Env c σ' G' H' ρ' → E.nx ρ' → D.nx σ' H') → (∀ v d σ' G' H' ρ', Env c σ' G' H' ρ' → Rep c.K G' v d → E.rt ρ' d → D.rt v H') →
  (∀ σ' G' H' ρ', Ex G G' → Env c σ' G' H' ρ' → E.bk ρ' → D.bk σ' H') → (∀ σ' G' H' ρ', Ex G G' → Env c σ' G' H' ρ' → E.ct ρ' → D.ct σ' H') → ts D σ H
/-- for one wish alone -/
def DSr (c : Ctx) (ts : TS) (ρ : List Sl) (D : Ends) : Prop := ∀ σ G H, Env c σ G H ρ → ts D σ H
theorem dsr_seq {c : Ctx} {ts us : TS} {ρ : List Sl} {D : Ends} (h : DS c ts ρ { nx := fun ρ' => DSr c us ρ' D, rt := fun _ _ => False }) : DSr c (tSeq ts us) ρ D := fun σ G H I =>
  h σ G H I { D with nx := us D } (fun σ' G' H' ρ' _ I' p => p σ' G' H' I') (fun _ _ _ _ _ _ _ _ p => p.elim) (fun _ _ _ _ _ _ p => p.elim) fun _ _ _ _ _ _ p => p.elim
/-- a target -/
def DG (c : Ctx) (g : TG) (d : Dt) (ρ : List Sl) (P : List Sl → Prop) : Prop := ∀ σ G H v, Env c σ G H ρ → Rep c.K G v d → ∀ Q : L2.St → Hp → Prop, (∀ σ' ρ', Env c σ' G H ρ' → P ρ' → Q σ' H) → g v σ H Q
def DGs (c : Ctx) (g : TGs) (ds : List Dt) (ρ : List Sl) (P : List Sl → Prop) : Prop := ∀ σ G H vs, Env c σ G H ρ → Reps c.K G vs ds → ∀ Q : L2.St → Hp → Prop, (∀ σ' ρ', Env c σ' G H ρ' → P ρ' → Q σ' H) → g vs σ H Q
section
variable {c : Ctx} {te ta tb tc : TE} {tt tu : TT} {tr : TA} {ρ : List Sl} {P P' : Dt → Prop} {d : Dt}
theorem DE.imp (h : DE c te ρ P) (k : ∀ d, P d → P' d) : DE c te ρ P' := fun σ G H E Q q => h σ G H E Q fun v d G' H' s r p => q v d G' H' s r (k d p)
theorem de_var {i : Nat} (h : ρ[i]? = some (.dt d)) (p : P d) : DE c (tVar i) ρ P := fun σ G H E Q q => by
  obtain ⟨v, e, r⟩ := E.sl i _ h
  exact ⟨v, e, q v d G H E.gd.refl r p⟩
theorem de_int {i : Int} (p : P (.int i)) : DE c (tC (.int i)) ρ P := fun σ G H E Q q => q _ _ G H E.gd.refl (.int i) p
theorem de_bl {b : Bool} (p : P (.bl b)) : DE c (tC (.bl b)) ρ P := fun σ G H E Q q => q _ _ G H E.gd.refl (.bl b) p
theorem de_non (p : P .non) : DE c (tC .non) ρ P := fun σ G H E Q q => q _ _ G H E.gd.refl .non p
theorem de_str {x : Str} (p : P (.str x)) : DE c (tC (.str x)) ρ P := fun σ G H E Q q => q _ _ G H E.gd.refl (.str x) p
/-- a constant of the module, by its value's data in the written part -/
theorem de_const {v : V} (hr : ∀ G : Hp, Rep c.K G v d) (p : P d) : DE c (tC v) ρ P := fun σ G H E Q q => q _ _ G H E.gd.refl (hr G) p
theorem de_op {r : R2} {w : Dt → Dt → (Dt → Prop) → Prop}
    (hr : ∀ G H x y d1 d2 P, Gd c G H → Rep c.K G x d1 → Rep c.K G y d2 → w d1 d2 P → ∀ Q : VK, (∀ v d G' H', Stp c G H G' H' → Rep c.K G' v d → P d → Q v H') → r x y H Q)
    (h : DE c ta ρ fun d1 => DE c tb ρ fun d2 => w d1 d2 P) : DE c (tOp r ta tb) ρ P := fun σ G H E Q q =>
  h σ G H E _ fun v1 d1 G1 H1 s1 r1 h1 => h1 σ G1 H1 (E.step s1) _ fun v2 d2 G2 H2 s2 r2 h2 =>
    hr G2 H2 v1 v2 d1 d2 P ((E.gd.step s1).step s2) (r1.mono s2.gg) r2 h2 Q fun v d G' H' s r p => q v d G' H' ((s1.trans s2).trans s) r p
theorem rep_int {K : PySem.W.Frag} {G : Hp} {v : V} {i : Int} (r : Rep K G v (.int i)) : v = .int i := by cases r; rfl
theorem rep_bl {K : PySem.W.Frag} {G : Hp} {v : V} {i : Bool} (r : Rep K G v (.bl i)) : v = .bl i := by cases r; rfl
def wI (C : Int → Int → Prop) (g : Int → Int → Dt) : Dt → Dt → (Dt → Prop) → Prop := fun d1 d2 P => ∃ i j, d1 = .int i ∧ d2 = .int j ∧ C i j ∧ P (g i j)
theorem de_opI {C : Int → Int → Prop} {g : Int → Int → Int} (h : DE c ta ρ fun d1 => DE c tb ρ fun d2 => ∃ i j, d1 = .int i ∧ d2 = .int j ∧ C i j ∧ P (.int (g i j))) : DE c (tOp (rI C fun i j => .int (g i j)) ta tb) ρ P :=
  de_op (w := wI C fun i j => .int (g i j)) (fun G H x y d1 d2 P gd r1 r2 h Q q => by
    obtain ⟨i, j, rfl, rfl, h1, h2⟩ := h
    exact ⟨i, j, rep_int r1, rep_int r2, h1, q _ _ G H gd.refl (.int _) h2⟩) h
theorem de_opI0 {g : Int → Int → Int} (h : DE c ta ρ fun d1 => DE c tb ρ fun d2 => ∃ i j, d1 = .int i ∧ d2 = .int j ∧ P (.int (g i j))) : DE c (tOp (rI0 fun i j => .int (g i j)) ta tb) ρ P :=
  de_op (w := fun d1 d2 P => ∃ i j, d1 = .int i ∧ d2 = .int j ∧ P (.int (g i j))) (fun G H x y d1 d2 P gd r1 r2 h Q q => by
    obtain ⟨i, j, rfl, rfl, h2⟩ := h
    exact ⟨i, j, rep_int r1, rep_int r2, q _ _ G H gd.refl (.int _) h2⟩) h
theorem de_opB0 {g : Int → Int → Bool} (h : DE c ta ρ fun d1 => DE c tb ρ fun d2 => ∃ i j, d1 = .int i ∧ d2 = .int j ∧ P (.bl (g i j))) : DE c (tOp (rI0 fun i j => .bl (g i j)) ta tb) ρ P :=
  de_op (w := fun d1 d2 P => ∃ i j, d1 = .int i ∧ d2 = .int j ∧ P (.bl (g i j))) (fun G H x y d1 d2 P gd r1 r2 h Q q => by
    obtain ⟨i, j, rfl, rfl, h2⟩ := h
    exact ⟨i, j, rep_int r1, rep_int r2, q _ _ G H gd.refl (.bl _) h2⟩) h
theorem de_neg {g : Int → Int} (h : DE c ta ρ fun d1 => ∃ i, d1 = .int i ∧ P (.int (g i))) : DE c (tUn (rU fun i => .int (g i)) ta) ρ P := fun σ G H E Q q =>
  h σ G H E _ fun v1 d1 G1 H1 s1 r1 h1 => by
    obtain ⟨i, rfl, h2⟩ := h1
    exact ⟨i, rep_int r1, q _ _ G1 H1 s1 (.int _) h2⟩
end
/-! ### == on data -/
mutual
def pyd : Dt → PyData
  | .non => .none
  | .bl b => .bool b
  | .int i => .int i
  | .str x => .str x
  | .lst xs => .list (pydAll xs)
  | .tup xs => .tuple (pydAll xs)
  | .ob _ _ _ => .none
  | .scr _ => .none
def pydAll : List Dt → List PyData
  | [] => []
  | x :: xs => pyd x :: pydAll xs
end
/-! no deeper than n, of plain data alone -/
mutual
def sh : Nat → Dt → Bool
  | _, .non => true
  | _, .bl _ => true
  | _, .int _ => true
  | _, .str x => PyData.strOk x
  | 0, .lst _ => false
  | 0, .tup _ => false
  | n + 1, .lst xs => shAll n xs
  | n + 1, .tup xs => shAll n xs
  | _, .ob _ _ _ => false
  | _, .scr _ => false
def shAll : Nat → List Dt → Bool
  | _, [] => true
  | n, x :: xs => sh n x && shAll n xs
end
theorem shAll_of : ∀ {n : Nat} {xs : List Dt}, (∀ x ∈ xs, sh n x = true) → shAll n xs = true
  | _, [], _ => by simp [shAll]
  | n, x :: xs, h => by
    rw [shAll, h x (List.mem_cons_self ..), shAll_of fun y hy => h y (List.mem_cons_of_mem _ hy)]
    rfl
section
variable {K : PySem.W.Frag} {G H : Hp}
mutual
theorem rep_dp (e : Ex G H) : ∀ {n : Nat} {v : V} {d : Dt}, Rep K G v d → sh n d = true → Dp K H v (pyd d)
  | _, _, _, .non, _ => .non
  | _, _, _, .bl b, _ => .bl b
  | _, _, _, .int i, _ => .int i
  | _, _, _, .str x, _ => .str x
  | 0, _, _, .lst _ _, h => by simp [sh] at h
  | n + 1, _, _, .lst h r, s => by
    rw [pyd]
    exact .lst (SqL.of (e _ _ h)) (reps_dp e r (by rw [sh] at s; exact s))
  | 0, _, _, .tup _ _, h => by simp [sh] at h
  | n + 1, _, _, .tup h r, s => by
    rw [pyd]
    exact .tup (Evl.ex_t e h) (reps_dp e r (by rw [sh] at s; exact s))
  | _, _, _, .ob _ _ _, h => by simp [sh] at h
  | _, _, _, .scr _, h => by simp [sh] at h
theorem reps_dp (e : Ex G H) : ∀ {n : Nat} {vs : List V} {ds : List Dt}, Reps K G vs ds → shAll n ds = true → DpAll K H vs (pydAll ds)
  | _, _, _, .nil, _ => .nil
  | n, _, _, .cons h r, s => by
    rw [shAll, Bool.and_eq_true] at s
    rw [pydAll]
    exact .cons (rep_dp e h s.1) (reps_dp e r s.2)
end
end
mutual
theorem sh_lay : ∀ {n : Nat} {d : Dt}, sh n d = true → (pyd d).canLay0 = true ∧ (pyd d).depth ≤ n + 1
  | _, .non, _ => by simp [pyd, PyData.canLay0, PyData.depth]
  | _, .bl _, _ => by simp [pyd, PyData.canLay0, PyData.depth]
  | _, .int _, _ => by simp [pyd, PyData.canLay0, PyData.depth]
  | _, .str x, h => by
    rw [sh] at h
    simp [pyd, PyData.canLay0, PyData.depth, h]
  | 0, .lst _, h => by simp [sh] at h
  | 0, .tup _, h => by simp [sh] at h
  | n + 1, .lst xs, h => by
    rw [sh] at h
    obtain ⟨a, b⟩ := shAll_lay h
    simp only [pyd, PyData.canLay0, PyData.depth]
    exact ⟨a, by omega⟩
  | n + 1, .tup xs, h => by
    rw [sh] at h
    obtain ⟨a, b⟩ := shAll_lay h
    simp only [pyd, PyData.canLay0, PyData.depth]
    exact ⟨a, by omega⟩
  | _, .ob _ _ _, h => by simp [sh] at h
  | _, .scr _, h => by simp [sh] at h
theorem shAll_lay : ∀ {n : Nat} {xs : List Dt}, shAll n xs = true → PyData.canLayAll0 (pydAll xs) = true ∧ PyData.depthAll (pydAll xs) ≤ n + 1
  | _, [], _ => by simp [pydAll, PyData.canLayAll0, PyData.depthAll]
  | n, x :: xs, h => by
    rw [shAll, Bool.and_eq_true] at h
    obtain ⟨a, b⟩ := sh_lay h.1
    obtain ⟨a2, b2⟩ := shAll_lay h.2
    simp only [pydAll, PyData.canLayAll0, PyData.depthAll, a, a2]
    exact ⟨rfl, by omega⟩
end
theorem sh_shaped {n : Nat} {d : Dt} (h : sh n d = true) (hn : n ≤ 60) : SeqAt.shaped (pyd d) = true := by
  obtain ⟨a, b⟩ := sh_lay h
  unfold SeqAt.shaped
  rw [a, Bool.true_and]
  exact decide_eq_true (by omega)
/-- whether == says yes -/
def deq (d e : Dt) : Bool := PyData.eqv (pyd d) (pyd e)
theorem deq_refl {n : Nat} {d : Dt} (h : sh n d = true) : deq d d = true := SeqAt.eqv_refl _ (sh_lay h).1
theorem deq_int (i j : Int) : deq (.int i) (.int j) = (i == j) := by simp [deq, pyd, PyData.eqv]
end K20
/-! Dl2: the rules of expressions over data. -/
namespace K20
open PySem L2
open Evl (Ex)
section
variable {c : Ctx} {te ta tb tc : TE} {tt tu : TT} {tr : TA} {ρ : List Sl} {P P' : Dt → Prop} {d : Dt}
/-! ### steps by new things -/
section
variable {G H G' H' : Hp} {p : Addr} {o : HO}
theorem Stp.newTo (s : Stp c G H G' H') (g : Gd c G H) (h : H' p = none) : Stp c G H (upd G' p o) (upd H' p o) := s.trans ((g.step s).new h)
theorem Stp.ownTo (s : Stp c G H G' H') (g : Gd c G H) (h : H' p = none) : Stp c G H G' (upd H' p o) := s.trans ((g.step s).newOwn h)
/-- one's own thing frozen -/
theorem Stp.freeze {ys : List V} (s : Stp c G H G' H') (hp : H p = none) (g : G' p = none) (h : H' p = some o) (gd : Gd c G H) : Stp c G H (upd G' p o) H' where
  gg := s.gg.trans (Ex.new g)
  gh := fun b u e => by
    by_cases hb : b = p
    · subst hb
      rw [upd_same] at e
      rw [h]
      exact e
    · rw [upd_ne hb] at e
      exact s.gh _ _ e
  fr := fun a h1 h2 => by
    have hb : a ≠ p := fun z => h1 (by rw [z]; exact hp)
    rw [upd_ne hb]
    exact s.fr a h1 h2
  hd := fun l e => by
    have h3 := s.hd l e
    have hb : l ≠ p := fun z => (gd.hd l e).2.2.some (by rw [z]; exact hp)
    exact h3.stay (Ex.new g) (by rw [upd_ne hb]; exact h3.1) rfl
end
theorem ite_t {c : Bool} {A B : Prop} (h : c = true) (a : A) : if c = true then A else B := by rw [if_pos h]; exact a
theorem ite_f {c : Bool} {A B : Prop} (h : c = false) (b : B) : if c = true then A else B := by rw [if_neg (by rw [h]; exact Bool.false_ne_true)]; exact b
/-! ### lists and tuples displayed -/
theorem da_nil {P : List Dt → Prop} (p : P []) : DA c tNil ρ P := fun σ G H E Q q => q _ _ G H E.gd.refl .nil p
theorem da_cons {P : List Dt → Prop} (h : DE c ta ρ fun d => DA c tr ρ fun ds => P (d :: ds)) : DA c (tCons ta tr) ρ P := fun σ G H E Q q =>
  h σ G H E _ fun v d G1 H1 s1 r1 h1 => h1 σ G1 H1 (E.step s1) _ fun vs ds G2 H2 s2 r2 h2 => q _ _ G2 H2 (s1.trans s2) (.cons (r1.mono s2.gg) r2) h2
theorem de_tup {ta : TA} (h : DA c ta ρ fun ds => ds.length ≤ 100000 ∧ P (.tup ds)) : DE c (tTup ta) ρ P := fun σ G H E Q q =>
  h σ G H E _ fun vs ds G1 H1 s1 r1 h1 => ⟨Evl.sz_of (by rw [r1.length]; exact h1.1), fun p hp => by
    have s2 := s1.newTo (o := .tup vs) E.gd hp
    exact q _ _ _ _ s2 (.tup (SqT.of upd_same) (r1.mono (Ex.new (Ex.sub_none s1.gh hp)))) h1.2⟩
theorem dl_lst {ta : TA} {P : List Dt → Prop} (h : DA c ta ρ fun ds => ds.length ≤ 100000 ∧ P ds) : DL c (tLst ta) ρ P := fun σ G H E Q q =>
  h σ G H E _ fun vs ds G1 H1 s1 r1 h1 => ⟨Evl.sz_of (by rw [r1.length]; exact h1.1), fun p hp =>
    q p vs ds G1 _ (s1.ownTo E.gd hp) (by
      cases e : H p with
      | none => rfl
      | some u =>
        have q1 : H p ≠ none := by rw [e]; exact fun z => by cases z
        cases e2 : G p with
        | some w =>
          have := s1.gh _ _ (s1.gg _ _ e2)
          rw [hp] at this
          cases this
        | none =>
          by_cases hh : c.hand = some p
          · exact absurd hp (s1.hd p hh).some
          · have := (s1.fr p q1 e2).2 hh
            rw [hp, e] at this
            cases this) (Ex.sub_none s1.gh hp) upd_same r1 h1.2⟩
theorem Stp.back {G H G' H' : Hp} {p : Addr} (s : Stp c G H G' H') (h : H' p = none) : H p = none := by
  cases e : H p with
  | none => rfl
  | some u =>
    have q1 : H p ≠ none := by rw [e]; exact fun z => by cases z
    cases e2 : G p with
    | some w =>
      have := s.gh _ _ (s.gg _ _ e2)
      rw [h] at this
      cases this
    | none =>
      by_cases hh : c.hand = some p
      · exact absurd h (s.hd p hh).some
      · have := (s.fr p q1 e2).2 hh
        rw [h, e] at this
        cases this
theorem de_of_dl (h : DL c te ρ fun xs => P (.lst xs)) : DE c te ρ P := fun σ G H E Q q =>
  h σ G H E _ fun p ys xs G1 H1 s1 hp hg hh r h1 => q _ _ _ _ (s1.freeze (ys := ys) hp hg hh E.gd) (.lst upd_same (r.mono (Ex.new hg))) h1
theorem de_lst {ta : TA} (h : DA c ta ρ fun ds => ds.length ≤ 100000 ∧ P (.lst ds)) : DE c (tLst ta) ρ P := de_of_dl (dl_lst h)
/-! ### subscripts -/
def isSeq (d : Dt) (xs : List Dt) : Prop := d = .lst xs ∨ d = .tup xs
theorem rep_seq {K : PySem.W.Frag} {G H : Hp} {v : V} {d : Dt} {xs : List Dt} (r : Rep K G v d) (h : isSeq d xs) (e : Ex G H) : ∃ (a : Addr) (ys : List V), v = .ref a ∧ (SqL K H a ys ∨ SqT K H a ys) ∧ Reps K G ys xs := by
  rcases h with rfl | rfl
  · cases r with
    | lst h r => exact ⟨_, _, rfl, .inl (SqL.of (e _ _ h)), r⟩
  · cases r with
    | tup h r => exact ⟨_, _, rfl, .inr (Evl.ex_t e h), r⟩
theorem Reps.atI {K : PySem.W.Frag} {G : Hp} {ys : List V} {xs : List Dt} {i : Int} (r : Reps K G ys xs) (h : atI xs i = some d) : ∃ v, L2.atI ys i = some v ∧ Rep K G v d := by
  unfold L2.atI at h ⊢
  rw [r.length]
  cases e : ixN xs.length i with
  | none => rw [e] at h; cases h
  | some j =>
    rw [e] at h
    obtain ⟨v, h1, h2⟩ := r.get (i := j) h
    exact ⟨v, h1, h2⟩
theorem de_ix (h : DE c ta ρ fun d1 => DE c tb ρ fun d2 => ∃ xs i v, isSeq d1 xs ∧ d2 = .int i ∧ atI xs i = some v ∧ P v) : DE c (tOp (rIx c.K) ta tb) ρ P :=
  de_op (w := fun d1 d2 P => ∃ xs i v, isSeq d1 xs ∧ d2 = .int i ∧ atI xs i = some v ∧ P v) (fun G H x y d1 d2 P gd r1 r2 h Q q => by
    obtain ⟨xs, i, v, h1, rfl, h3, h4⟩ := h
    obtain ⟨a, ys, rfl, hs, r⟩ := rep_seq r1 h1 gd.gh
    obtain ⟨u, h5, h6⟩ := r.atI h3
    rcases hs with hs | hs
    · exact .inl ⟨a, ys, i, u, rfl, rep_int r2, hs, h5, q _ _ G H gd.refl h6 h4⟩
    · exact .inr (.inl ⟨a, ys, i, u, rfl, rep_int r2, hs, h5, q _ _ G H gd.refl h6 h4⟩)) h
theorem Env.ownAt {σ : L2.St} {G H : Hp} {i : Nat} {xs : List Dt} (E : Env c σ G H ρ) (h : ρ[i]? = some (.own xs)) : ∃ (a : Addr) (ys : List V), σ[i]? = some (some (.ref a)) ∧ G a = none ∧ c.H0 a = none ∧ H a = some (.lst ys) ∧ Reps c.K G ys xs := E.sl i _ h
theorem de_ix_own {j : Nat} {xs : List Dt} (hj : ρ[j]? = some (.own xs)) (h : DE c tb ρ fun d2 => ∃ i v, d2 = .int i ∧ atI xs i = some v ∧ P v) : DE c (tOp (rIx c.K) (tVar j) tb) ρ P := fun σ G H E Q q => by
  obtain ⟨a, ys, e, g1, g2, g3, r⟩ := E.ownAt hj
  refine ⟨.ref a, e, h σ G H E _ fun v d G1 H1 s1 r1 h1 => ?_⟩
  obtain ⟨i, w, rfl, h3, h4⟩ := h1
  have E1 := E.step s1
  obtain ⟨a', ys', e', g1', g2', g3', r'⟩ := E1.ownAt hj
  rw [e] at e'
  cases e'
  obtain ⟨u, h5, h6⟩ := r'.atI h3
  exact .inl ⟨a, ys', i, u, rfl, rep_int r1, SqL.of g3', h5, q _ _ G1 H1 s1 h6 h4⟩
/-! ### len, int, abs, list, tuple -/
def rLenD (K : PySem.W.Frag) : List V → Hp → VK → Prop := fun xs H Q => ∃ x n, xs = [x] ∧ LenV K x H n ∧ Q (.int n) H
theorem de_len (h : DE c ta ρ fun d => (∃ xs, isSeq d xs ∧ P (.int xs.length)) ∨ ∃ ns, d = .scr ns ∧ P (.int ns.length)) : DE c (tCB (rLenD c.K) (tCons ta tNil)) ρ P := fun σ G H E Q q =>
  h σ G H E _ fun v d G1 H1 s1 r1 h1 => by
    rcases h1 with ⟨xs, h1, h2⟩ | ⟨ns, rfl, h2⟩
    · obtain ⟨a, ys, rfl, hs, r⟩ := rep_seq r1 h1 s1.gh
      refine ⟨.ref a, ys.length, rfl, ?_, ?_⟩
      · rcases hs with hs | hs
        · exact .inl ⟨ys, hs, rfl⟩
        · exact .inr ⟨ys, hs, rfl⟩
      · rw [r.length]
        exact q _ _ G1 H1 s1 (.int _) h2
    · cases r1 with
      | @scr a _ hs =>
        refine ⟨.ref a, ns.length, rfl, .inl ⟨_, Evl.ex_l s1.gh hs, by rw [List.length_map]⟩, q _ _ G1 H1 s1 (.int _) h2⟩
theorem de_len_own {j : Nat} {xs : List Dt} (hj : ρ[j]? = some (.own xs)) (p : P (.int xs.length)) : DE c (tCB (rLenD c.K) (tCons (tVar j) tNil)) ρ P := fun σ G H E Q q => by
  obtain ⟨a, ys, e, g1, g2, g3, r⟩ := E.ownAt hj
  refine ⟨.ref a, e, .ref a, ys.length, rfl, .inl ⟨ys, SqL.of g3, rfl⟩, ?_⟩
  rw [r.length]
  exact q _ _ G H E.gd.refl (.int _) p
def rInt1 : List V → Hp → VK → Prop := fun xs H Q => (∃ i, xs = [.int i] ∧ Q (.int i) H) ∨ ∃ k, xs = [.bl k] ∧ Q (.int (if k then 1 else 0)) H
theorem de_int1 (h : DE c ta ρ fun d => ∃ i, d = .int i ∧ P (.int i)) : DE c (tCB rInt1 (tCons ta tNil)) ρ P := fun σ G H E Q q =>
  h σ G H E _ fun v d G1 H1 s1 r1 h1 => by
    obtain ⟨i, rfl, h2⟩ := h1
    exact .inl ⟨i, by rw [rep_int r1], q _ _ G1 H1 s1 (.int i) h2⟩
def rAbs : List V → Hp → VK → Prop := fun xs H Q => ∃ i, xs = [.int i] ∧ Q (.int (if i < 0 then -i else i)) H
theorem de_abs (h : DE c ta ρ fun d => ∃ i, d = .int i ∧ P (.int (if i < 0 then -i else i))) : DE c (tCB rAbs (tCons ta tNil)) ρ P := fun σ G H E Q q =>
  h σ G H E _ fun v d G1 H1 s1 r1 h1 => by
    obtain ⟨i, rfl, h2⟩ := h1
    exact ⟨i, by rw [rep_int r1], q _ _ G1 H1 s1 (.int _) h2⟩
def rMin2 : List V → Hp → VK → Prop := fun xs H Q => ∃ i j, xs = [.int i, .int j] ∧ Q (.int (if j < i then j else i)) H
def rMax2 : List V → Hp → VK → Prop := fun xs H Q => ∃ i j, xs = [.int i, .int j] ∧ Q (.int (if j > i then j else i)) H
theorem de_min2 (h : DE c ta ρ fun d => DE c tb ρ fun e => ∃ i j, d = .int i ∧ e = .int j ∧ P (.int (if j < i then j else i))) : DE c (tCB rMin2 (tCons ta (tCons tb tNil))) ρ P := fun σ G H E Q q =>
  h σ G H E _ fun v d G1 H1 s1 r1 h1 => h1 σ G1 H1 (E.step s1) _ fun v2 d2 G2 H2 s2 r2 h2 => by
    obtain ⟨i, j, rfl, rfl, h3⟩ := h2
    exact ⟨i, j, by rw [rep_int r1, rep_int r2], q _ _ G2 H2 (s1.trans s2) (.int _) h3⟩
theorem de_max2 (h : DE c ta ρ fun d => DE c tb ρ fun e => ∃ i j, d = .int i ∧ e = .int j ∧ P (.int (if j > i then j else i))) : DE c (tCB rMax2 (tCons ta (tCons tb tNil))) ρ P := fun σ G H E Q q =>
  h σ G H E _ fun v d G1 H1 s1 r1 h1 => h1 σ G1 H1 (E.step s1) _ fun v2 d2 G2 H2 s2 r2 h2 => by
    obtain ⟨i, j, rfl, rfl, h3⟩ := h2
    exact ⟨i, j, by rw [rep_int r1, rep_int r2], q _ _ G2 H2 (s1.trans s2) (.int _) h3⟩
def rListD (K : PySem.W.Frag) : List V → Hp → VK → Prop := fun xs H Q => ∃ p ys, xs = [.ref p] ∧ (SqL K H p ys ∨ SqT K H p ys) ∧ ∀ l, H l = none → Q (.ref l) (upd H l (.lst ys))
theorem dl_list {P : List Dt → Prop} (h : DE c ta ρ fun d => ∃ xs, isSeq d xs ∧ P xs) : DL c (tCB (rListD c.K) (tCons ta tNil)) ρ P := fun σ G H E Q q =>
  h σ G H E _ fun v d G1 H1 s1 r1 h1 => by
    obtain ⟨xs, h1, h2⟩ := h1
    obtain ⟨a, ys, rfl, hs, r⟩ := rep_seq r1 h1 s1.gh
    exact ⟨a, ys, rfl, hs, fun l hl => q l ys xs G1 _ (s1.ownTo E.gd hl) (s1.back hl) (Ex.sub_none s1.gh hl) upd_same r h2⟩
def rTupD (K : PySem.W.Frag) : List V → Hp → VK → Prop := fun xs H Q => ∃ p ys, xs = [.ref p] ∧ ((SqL K H p ys ∧ ∀ l, H l = none → Q (.ref l) (upd H l (.tup ys))) ∨ (SqT K H p ys ∧ Q (.ref p) H))
theorem de_tuple (h : DE c ta ρ fun d => ∃ xs, isSeq d xs ∧ P (.tup xs)) : DE c (tCB (rTupD c.K) (tCons ta tNil)) ρ P := fun σ G H E Q q =>
  h σ G H E _ fun v d G1 H1 s1 r1 h1 => by
    obtain ⟨xs, h1, h2⟩ := h1
    rcases h1 with rfl | rfl
    · cases r1 with
      | @lst a ys _ h r =>
        exact ⟨a, ys, rfl, .inl ⟨SqL.of (s1.gh _ _ h), fun l hl => q _ _ _ _ (s1.newTo E.gd hl) (.tup (SqT.of upd_same) (r.mono (Ex.new (Ex.sub_none s1.gh hl)))) h2⟩⟩
    · cases r1 with
      | @tup a ys _ h r => exact ⟨a, ys, rfl, .inr ⟨Evl.ex_t s1.gh h, q _ _ G1 H1 s1 (.tup h r) h2⟩⟩
theorem de_tuple_own {j : Nat} {xs : List Dt} (hj : ρ[j]? = some (.own xs)) (p : P (.tup xs)) : DE c (tCB (rTupD c.K) (tCons (tVar j) tNil)) ρ P := fun σ G H E Q q => by
  obtain ⟨a, ys, e, g1, g2, g3, r⟩ := E.ownAt hj
  exact ⟨.ref a, e, a, ys, rfl, .inl ⟨SqL.of g3, fun l hl => q _ _ _ _ (E.gd.new hl) (.tup (SqT.of upd_same) (r.mono (Ex.new (Ex.sub_none E.gd.gh hl)))) p⟩⟩
theorem de_tuple_dl (h : DL c ta ρ fun xs => P (.tup xs)) : DE c (tCB (rTupD c.K) (tCons ta tNil)) ρ P := de_tuple (de_of_dl (P := fun d => ∃ xs, isSeq d xs ∧ P (.tup xs)) fun σ G H E Q q =>
  h σ G H E Q fun p ys xs G' H' s a b e r z => q p ys xs G' H' s a b e r ⟨xs, .inl rfl, z⟩)
/-! ### is None, ==, truth -/
def isNon : Dt → Bool
  | .non => true
  | _ => false
theorem rep_non {K : PySem.W.Frag} {G : Hp} {v : V} {d : Dt} (r : Rep K G v d) : decide (v = .non) = isNon d := by
  cases r <;> simp [isNon]
theorem de_isN (h : DE c ta ρ fun d1 => DE c tb ρ fun d2 => d2 = .non ∧ P (.bl (isNon d1))) : DE c (tOp (fun x y H Q => y = .non ∧ Q (.bl (decide (x = .non))) H) ta tb) ρ P :=
  de_op (w := fun d1 d2 P => d2 = .non ∧ P (.bl (isNon d1))) (fun G H x y d1 d2 P gd r1 r2 h Q q => by
    obtain ⟨rfl, h2⟩ := h
    refine ⟨by cases r2; rfl, ?_⟩
    rw [rep_non r1]
    exact q _ _ G H gd.refl (.bl _) h2) h
theorem de_notN (h : DE c ta ρ fun d1 => DE c tb ρ fun d2 => d2 = .non ∧ P (.bl (!isNon d1))) : DE c (tOp (fun x y H Q => y = .non ∧ Q (.bl (!decide (x = .non))) H) ta tb) ρ P :=
  de_op (w := fun d1 d2 P => d2 = .non ∧ P (.bl (!isNon d1))) (fun G H x y d1 d2 P gd r1 r2 h Q q => by
    obtain ⟨rfl, h2⟩ := h
    refine ⟨by cases r2; rfl, ?_⟩
    rw [rep_non r1]
    exact q _ _ G H gd.refl (.bl _) h2) h
def shD (d : Dt) : Prop := ∃ n, n ≤ 60 ∧ sh n d = true
theorem de_eqD (h : DE c ta ρ fun d1 => DE c tb ρ fun d2 => shD d1 ∧ shD d2 ∧ P (.bl (deq d1 d2))) : DE c (tOp (rEqD c.K) ta tb) ρ P :=
  de_op (w := fun d1 d2 P => shD d1 ∧ shD d2 ∧ P (.bl (deq d1 d2))) (fun G H x y d1 d2 P gd r1 r2 h Q q => by
    obtain ⟨⟨n, hn, s1⟩, ⟨m, hm, s2⟩, h3⟩ := h
    exact ⟨_, _, rep_dp gd.gh r1 s1, rep_dp gd.gh r2 s2, sh_shaped s1 hn, sh_shaped s2 hm, q _ _ G H gd.refl (.bl _) h3⟩) h
theorem de_neD (h : DE c ta ρ fun d1 => DE c tb ρ fun d2 => shD d1 ∧ shD d2 ∧ P (.bl (!deq d1 d2))) : DE c (tOp (rNeD c.K) ta tb) ρ P :=
  de_op (w := fun d1 d2 P => shD d1 ∧ shD d2 ∧ P (.bl (!deq d1 d2))) (fun G H x y d1 d2 P gd r1 r2 h Q q => by
    obtain ⟨⟨n, hn, s1⟩, ⟨m, hm, s2⟩, h3⟩ := h
    exact ⟨_, _, rep_dp gd.gh r1 s1, rep_dp gd.gh r2 s2, sh_shaped s1 hn, sh_shaped s2 hm, q _ _ G H gd.refl (.bl _) h3⟩) h
/-- found != [], found one's own -/
theorem de_ne_own {j : Nat} {xs : List Dt} (hj : ρ[j]? = some (.own xs)) (h : shD (.lst xs) ∧ DE c tb ρ fun d2 => shD d2 ∧ P (.bl (!deq (.lst xs) d2))) : DE c (tOp (rNeD c.K) (tVar j) tb) ρ P := fun σ G H E Q q => by
  obtain ⟨a, ys, e, g1, g2, g3, r⟩ := E.ownAt hj
  obtain ⟨⟨n, hn, s1⟩, h⟩ := h
  refine ⟨.ref a, e, h σ G H E _ fun v d G1 H1 st r1 h1 => ?_⟩
  obtain ⟨⟨m, hm, s2⟩, h3⟩ := h1
  obtain ⟨a', ys', e', g1', g2', g3', r'⟩ := (E.step st).ownAt hj
  rw [e] at e'
  cases e'
  refine ⟨_, _, ?_, rep_dp st.gh r1 s2, sh_shaped s1 hn, sh_shaped s2 hm, q _ _ G1 H1 st (.bl _) h3⟩
  cases n with
  | zero => simp [sh] at s1
  | succ n =>
    rw [pyd]
    exact .lst (SqL.of g3') (reps_dp st.gh r' (by rw [sh] at s1; exact s1))
def tru : Dt → Option Bool
  | .non => some false
  | .bl b => some b
  | .int i => some (i != 0)
  | .lst xs => some (!xs.isEmpty)
  | .tup xs => some (!xs.isEmpty)
  | _ => none
theorem Reps.empty {K : PySem.W.Frag} {G : Hp} {ys : List V} {xs : List Dt} (r : Reps K G ys xs) : ys.isEmpty = xs.isEmpty := by
  cases r <;> rfl
theorem rep_tru {K : PySem.W.Frag} {G H : Hp} {v : V} {d : Dt} {k : Bool} (r : Rep K G v d) (e : Ex G H) (h : tru d = some k) : TruV K v H k := by
  cases r with
  | non => cases h; exact rfl
  | bl b => cases h; exact rfl
  | int i => cases h; exact rfl
  | str x => cases h
  | lst h1 r =>
    cases h
    exact .inl ⟨_, SqL.of (e _ _ h1), by rw [r.empty]⟩
  | tup h1 r =>
    cases h
    exact .inr (.inl ⟨_, Evl.ex_t e h1, by rw [r.empty]⟩)
  | ob _ _ _ => cases h
  | scr _ => cases h
def tTru (K : PySem.W.Frag) (ta : TE) : TT := fun σ H Q => ta σ H fun x H' => ∃ k, TruV K x H' k ∧ Q k H'
theorem pt_tru {X : Cx} {a : PySem.Expr} {ta : TE} (ha : PE X a ta) (he : ∀ whole, isTrue a X.env whole = (do let v ← whole; standAt a.pos; holding [v] (truthy v)) := by intro _; rfl) : PT X a (tTru X.K ta) := pt_truth ha he
theorem dt_tru {P : Bool → Prop} (h : DE c ta ρ fun d => ∃ k, tru d = some k ∧ P k) : DT c (tTru c.K ta) ρ P := fun σ G H E Q q =>
  h σ G H E _ fun v d G1 H1 s1 r1 h1 => by
    obtain ⟨k, h2, h3⟩ := h1
    exact ⟨k, rep_tru r1 s1.gh h2, q k G1 H1 s1 h3⟩
theorem dt_test {P : Bool → Prop} (h : DE c ta ρ fun d => ∃ k, d = .bl k ∧ P k) : DT c (tTest ta) ρ P := fun σ G H E Q q =>
  h σ G H E _ fun v d G1 H1 s1 r1 h1 => by
    obtain ⟨k, rfl, h3⟩ := h1
    exact ⟨k, rep_bl r1, q k G1 H1 s1 h3⟩
theorem dt_and {P : Bool → Prop} (h : DT c tt ρ fun b => if b = true then DT c tu ρ P else P false) : DT c (tAnd tt tu) ρ P := fun σ G H E Q q =>
  h σ G H E _ fun b G1 H1 s1 h1 => by
    cases b with
    | true => exact iteT (h1 σ G1 H1 (E.step s1) _ fun b G2 H2 s2 h2 => q b G2 H2 (s1.trans s2) h2)
    | false => exact iteF (q false G1 H1 s1 h1)
theorem dt_or {P : Bool → Prop} (h : DT c tt ρ fun b => if b = true then P true else DT c tu ρ P) : DT c (tOr tt tu) ρ P := fun σ G H E Q q =>
  h σ G H E _ fun b G1 H1 s1 h1 => by
    cases b with
    | true => exact iteT (q true G1 H1 s1 h1)
    | false => exact iteF (h1 σ G1 H1 (E.step s1) _ fun b G2 H2 s2 h2 => q b G2 H2 (s1.trans s2) h2)
theorem dt_not {P : Bool → Prop} (h : DT c tt ρ fun b => P (!b)) : DT c (tNot tt) ρ P := fun σ G H E Q q =>
  h σ G H E _ fun b G1 H1 s1 h1 => q (!b) G1 H1 s1 h1
theorem de_andV (h : DE c ta ρ fun d => ∃ b, d = .bl b ∧ if b = true then DE c tb ρ P else P (.bl false)) : DE c (tAndV ta tb) ρ P := fun σ G H E Q q =>
  h σ G H E _ fun v d G1 H1 s1 r1 h1 => by
    obtain ⟨b, rfl, h1⟩ := h1
    refine ⟨b, rep_bl r1, ?_⟩
    cases b with
    | true => exact iteT (h1 σ G1 H1 (E.step s1) _ fun v2 d2 G2 H2 s2 r2 h2 => q v2 d2 G2 H2 (s1.trans s2) r2 h2)
    | false => exact iteF (q _ _ G1 H1 s1 (.bl false) h1)
theorem de_orV (h : DE c ta ρ fun d => ∃ b, d = .bl b ∧ if b = true then P (.bl true) else DE c tb ρ P) : DE c (tOrV ta tb) ρ P := fun σ G H E Q q =>
  h σ G H E _ fun v d G1 H1 s1 r1 h1 => by
    obtain ⟨b, rfl, h1⟩ := h1
    refine ⟨b, rep_bl r1, ?_⟩
    cases b with
    | true => exact iteT (q _ _ G1 H1 s1 (.bl true) h1)
    | false => exact iteF (h1 σ G1 H1 (E.step s1) _ fun v2 d2 G2 H2 s2 r2 h2 => q v2 d2 G2 H2 (s1.trans s2) r2 h2)
theorem de_notT (h : DE c ta ρ fun d => ∃ b, tru d = some b ∧ P (.bl (!b))) : DE c (tNotT c.K ta) ρ P := fun σ G H E Q q =>
  h σ G H E _ fun v d G1 H1 s1 r1 h1 => by
    obtain ⟨b, h2, h1⟩ := h1
    exact ⟨b, rep_tru r1 s1.gh h2, q _ _ G1 H1 s1 (.bl _) h1⟩
theorem de_if (h : DT c tt ρ fun b => if b = true then DE c ta ρ P else DE c tb ρ P) : DE c (tIf tt ta tb) ρ P := fun σ G H E Q q =>
  h σ G H E _ fun b G1 H1 s1 h1 => by
    cases b with
    | true => exact iteT (h1 σ G1 H1 (E.step s1) _ fun v2 d2 G2 H2 s2 r2 h2 => q v2 d2 G2 H2 (s1.trans s2) r2 h2)
    | false => exact iteF (h1 σ G1 H1 (E.step s1) _ fun v2 d2 G2 H2 s2 r2 h2 => q v2 d2 G2 H2 (s1.trans s2) r2 h2)
/-- i op j op' k, ints -/
theorem de_chainI {f g : Int → Int → Bool} (h : DE c ta ρ fun d1 => DE c tb ρ fun d2 => ∃ i j, d1 = .int i ∧ d2 = .int j ∧ if f i j = true then DE c tc ρ (fun d3 => ∃ k, d3 = .int k ∧ P (.bl (g j k))) else P (.bl false)) :
    DE c (tChain (rI0 fun i j => .bl (f i j)) (rI0 fun i j => .bl (g i j)) ta tb tc) ρ P := fun σ G H E Q q =>
  h σ G H E _ fun v1 d1 G1 H1 s1 r1 h1 => h1 σ G1 H1 (E.step s1) _ fun v2 d2 G2 H2 s2 r2 h2 => by
    obtain ⟨i, j, rfl, rfl, h2⟩ := h2
    refine ⟨i, j, rep_int r1, rep_int r2, f i j, rfl, ?_⟩
    cases e : f i j with
    | true =>
      rw [e] at h2
      exact iteT (h2 σ G2 H2 ((E.step s1).step s2) _ fun v3 d3 G3 H3 s3 r3 h3 => by
        obtain ⟨k, rfl, h3⟩ := h3
        exact ⟨j, k, rep_int r2, rep_int r3, q _ _ G3 H3 ((s1.trans s2).trans s3) (.bl _) h3⟩)
    | false =>
      rw [e] at h2
      exact iteF (q _ _ G2 H2 (s1.trans s2) (.bl false) h2)
/-! ### +, * , slices of lists and tuples -/
def rAddA (K : PySem.W.Frag) : R2 := fun x y H Q => rI0 (fun i j => .int (i + j)) x y H Q ∨ (rCatA K x y H Q ∨ rCat x y H Q)
theorem op_addA {X : Cx} : OpR X (binaryOp .Add) (rAddA X.K) := op_add.or (op_catA.or op_cat)
abbrev addD (d1 d2 : Dt) (P : Dt → Prop) : Prop := (∃ i j, d1 = .int i ∧ d2 = .int j ∧ P (.int (i + j))) ∨ (∃ xs ys, d1 = .tup xs ∧ d2 = .tup ys ∧ xs.length + ys.length ≤ 100000 ∧ P (.tup (xs ++ ys))) ∨
  ∃ xs ys, d1 = .lst xs ∧ d2 = .lst ys ∧ xs.length + ys.length ≤ 100000 ∧ P (.lst (xs ++ ys))
theorem de_add (h : DE c ta ρ fun d1 => DE c tb ρ fun d2 => addD d1 d2 P) : DE c (tOp (rAddA c.K) ta tb) ρ P :=
  de_op (w := addD) (fun G H x y d1 d2 P gd r1 r2 h Q q => by
    rcases h with ⟨i, j, rfl, rfl, h⟩ | ⟨xs, ys, rfl, rfl, hl, h⟩ | ⟨xs, ys, rfl, rfl, hl, h⟩
    · exact .inl ⟨i, j, rep_int r1, rep_int r2, q _ _ G H gd.refl (.int _) h⟩
    · cases r1 with
      | @tup a us _ h1 r1 =>
        cases r2 with
        | @tup b vs _ h2 r2 =>
          refine .inr (.inl ⟨a, b, us, vs, rfl, rfl, Evl.ex_t gd.gh h1, Evl.ex_t gd.gh h2, Evl.sz_of (by rw [r1.length, r2.length]; exact hl), fun e => ?_, fun e e2 => ?_, fun e e2 p hp => ?_⟩)
          · subst e
            cases r1
            exact q _ _ G H gd.refl (.tup h2 r2) h
          · subst e2
            cases r2
            rw [List.append_nil] at h
            exact q _ _ G H gd.refl (.tup h1 r1) h
          · exact q _ _ _ _ (gd.new hp) (.tup (SqT.of upd_same) ((r1.append r2).mono (Ex.new (Ex.sub_none gd.gh hp)))) h
    · cases r1 with
      | @lst a us _ h1 r1 =>
        cases r2 with
        | @lst b vs _ h2 r2 =>
          refine .inr (.inr ⟨a, b, us, vs, rfl, rfl, gd.gh _ _ h1, gd.gh _ _ h2, Evl.sz_of (by rw [r1.length, r2.length]; exact hl), fun p hp => ?_⟩)
          exact q _ _ _ _ (gd.new hp) (.lst upd_same ((r1.append r2).mono (Ex.new (Ex.sub_none gd.gh hp)))) h) h
def rMulA : R2 := fun x y H Q => rI CMulW (fun i j => .int (i * j)) x y H Q ∨ rRep x y H Q
theorem op_mulA {X : Cx} : OpR X (binaryOp .Mult) rMulA := op_mulW.or op_rep
abbrev mulD (d1 d2 : Dt) (P : Dt → Prop) : Prop := (∃ i j, d1 = .int i ∧ d2 = .int j ∧ CMulW i j ∧ P (.int (i * j))) ∨ ∃ xs k, d1 = .lst xs ∧ d2 = .int k ∧ 0 ≤ k ∧ k ≤ 1000 ∧ xs.length ≤ 100 ∧ P (.lst (List.replicate k.toNat xs).flatten)
end
end K20
/-! Dl3: further expressions, calls, statements, loops, comprehensions over data. -/
namespace K20
open PySem L2
open Evl (Ex)
section
variable {c : Ctx} {te ta tb tc : TE} {tt tu : TT} {tr : TA} {ρ : List Sl} {P P' : Dt → Prop} {d : Dt}
theorem de_mul (h : DE c ta ρ fun d1 => DE c tb ρ fun d2 => mulD d1 d2 P) : DE c (tOp rMulA ta tb) ρ P :=
  de_op (w := mulD) (fun G H x y d1 d2 P gd r1 r2 h Q q => by
    rcases h with ⟨i, j, rfl, rfl, hc, h⟩ | ⟨xs, k, rfl, rfl, h0, h1, hl, h⟩
    · exact .inl ⟨i, j, rep_int r1, rep_int r2, hc, q _ _ G H gd.refl (.int _) h⟩
    · cases r1 with
      | @lst a us _ g1 r1 =>
        refine .inr ⟨a, k, us, rfl, rep_int r2, gd.gh _ _ g1, by omega, by omega, Evl.sz_of ?_, fun p hp => ?_⟩
        · rw [r1.length]
          have : k.toNat ≤ 1000 := by omega
          exact Nat.le_trans (Nat.mul_le_mul hl this) (by decide)
        · exact q _ _ _ _ (gd.new hp) (.lst upd_same ((r1.flat k.toNat).mono (Ex.new (Ex.sub_none gd.gh hp)))) h) h
/-! ### slices -/
def cutD (xs : List Dt) (lo hi : Option Int) : List Dt := (xs.drop (HT.sIx xs.length 0 lo)).take (HT.sIx xs.length xs.length hi - HT.sIx xs.length 0 lo)
theorem Reps.cut {K : PySem.W.Frag} {G : Hp} {ys : List V} {xs : List Dt} (r : Reps K G ys xs) (lo hi : Option Int) : Reps K G (cutV ys lo hi) (cutD xs lo hi) := by
  unfold cutV cutD
  rw [r.length]
  exact (r.drop _).take _
theorem cutD_whole {xs : List Dt} {lo hi : Option Int} (h : HT.sIx xs.length 0 lo = 0 ∧ HT.sIx xs.length xs.length hi = xs.length) : cutD xs lo hi = xs := by
  unfold cutD
  rw [h.1, h.2]
  simp
def rSlD (K : PySem.W.Frag) : V → Option Int → Option Int → Hp → VK → Prop := fun x lo hi H Q => rSlL K x lo hi H Q ∨ rSlA K x lo hi H Q
theorem sl_any {X : Cx} : SlR X (rSlD X.K) := sl_list.or sl_tupA
theorem do_none {P : Option Int → Prop} (p : P none) : DO c tNoPart ρ P := fun σ G H E Q q => q none G H E.gd.refl p
theorem do_some {P : Option Int → Prop} (h : DE c te ρ fun d => ∃ i, d = .int i ∧ P (some i)) : DO c (tPart te) ρ P := fun σ G H E Q q =>
  h σ G H E _ fun v d G1 H1 s1 r1 h1 => by
    obtain ⟨i, rfl, h2⟩ := h1
    exact ⟨i, rep_int r1, q (some i) G1 H1 s1 h2⟩
theorem de_slice {tl th : TO} (h : DE c te ρ fun d => DO c tl ρ fun lo => DO c th ρ fun hi => (∃ xs, d = .tup xs ∧ P (.tup (cutD xs lo hi))) ∨ ∃ xs, d = .lst xs ∧ P (.lst (cutD xs lo hi))) : DE c (tSl (rSlD c.K) te tl th) ρ P := fun σ G H E Q q =>
  h σ G H E _ fun v d G1 H1 s1 r1 h1 => h1 σ G1 H1 (E.step s1) _ fun lo G2 H2 s2 h2 => h2 σ G2 H2 ((E.step s1).step s2) _ fun hi G3 H3 s3 h3 => by
    have st := (s1.trans s2).trans s3
    have r3 := (r1.mono s2.gg).mono s3.gg
    rcases h3 with ⟨xs, rfl, h3⟩ | ⟨xs, rfl, h3⟩
    · cases r3 with
      | @tup a ys _ hT r =>
        refine .inr ⟨a, ys, rfl, Evl.ex_t s3.gh hT, fun hw => ?_, fun hw p hp => ?_⟩
        · rw [r.length] at hw
          rw [cutD_whole hw] at h3
          exact q _ _ G3 H3 st (.tup hT r) h3
        · exact q _ _ _ _ (st.newTo E.gd hp) (.tup (SqT.of upd_same) ((r.cut lo hi).mono (Ex.new (Ex.sub_none st.gh hp)))) h3
    · cases r3 with
      | @lst a ys _ hL r =>
        refine .inl ⟨a, ys, rfl, SqL.of (s3.gh _ _ hL), fun p hp => ?_⟩
        exact q _ _ _ _ (st.newTo E.gd hp) (.lst upd_same ((r.cut lo hi).mono (Ex.new (Ex.sub_none st.gh hp)))) h3
/-! ### isinstance -/
structure OwnTy (K : PySem.W.Frag) (C : Addr) : Prop where
  cl : Cls K C
  ha : PySem.W.findIn K (.ref C) "__class__" = some (some (.builtin "object.__class__"))
  hn : PySem.W.specialIn K (.builtin "object.__class__") "__get__" = some (some (.builtin "getset_descriptor.__get__"))
  htk : PySem.W.takesIn K (.builtin "object.__class__") = some true
  hm : PySem.W.mroIn K C (.type "object") = some true
inductive TyD (K : PySem.W.Frag) : Dt → Value → Prop
  | non : TyD K .non (.type "NoneType")
  | bl (b : Bool) : TyD K (.bl b) (.type "bool")
  | int (i : Int) : TyD K (.int i) (.type "int")
  | str (x : Str) : TyD K (.str x) (.type "str")
  | lst (xs : List Dt) : TyD K (.lst xs) (.type "list")
  | tup (xs : List Dt) : TyD K (.tup xs) (.type "tuple")
  | ob {C : Addr} (ns : List Str) (ds : List Dt) : OwnTy K C → TyD K (.ob C ns ds) (.ref C)
theorem rep_ty {K : PySem.W.Frag} {G H : Hp} {v : V} {d : Dt} {t : Value} (r : Rep K G v d) (e : Ex G H) (h : TyD K d t) : TyX K H v t := by
  cases h with
  | non => cases r; exact .base .non
  | bl b => cases r; exact .base (.bl b)
  | int i => cases r; exact .base (.int i)
  | str x => cases r; exact .base (.str x)
  | lst xs => cases r with | lst h1 r => exact .base (.lst (e _ _ h1))
  | tup xs =>
    cases r with
    | tup h1 r =>
      rcases Evl.ex_t e h1 with (h1 | ⟨o, h1⟩) | ⟨o, its, n, h1, h2, _⟩
      · exact .base (.tup h1)
      · exact .fTuple h1
      · exact .kTuple h1 h2
  | ob ns ds T => cases r with | ob h1 _ _ => exact .base (.ins (e _ _ h1) T.cl T.ha T.hn T.htk T.hm)
theorem de_isi {cv : V} {u : Value} (hu : ClsV cv u) (h : DE c ta ρ fun d => ∃ t b, TyD c.K d t ∧ PySem.W.kitOne c.K t u = some b ∧ P (.bl b)) : DE c (tCB (rIsi c.K) (tCons ta (tCons (tC cv) tNil))) ρ P := fun σ G H E Q q =>
  h σ G H E _ fun v d G1 H1 s1 r1 h1 => by
    obtain ⟨t, b, h1, h2, h3⟩ := h1
    exact ⟨v, cv, t, u, b, rfl, hu, rep_ty r1 s1.gh h1, h2, q _ _ G1 H1 s1 (.bl b) h3⟩
theorem de_isiT {m n : String} (h : DE c ta ρ fun d => ∃ t b, TyD c.K d t ∧ PySem.W.kitAny c.K t [.type m, .type n] = some b ∧ P (.bl b)) : DE c (tCB (rIsiT c.K) (tCons ta (tCons (tTup (tCons (tC (.ty m)) (tCons (tC (.ty n)) tNil))) tNil))) ρ P := fun σ G H E Q q =>
  h σ G H E _ fun v d G1 H1 s1 r1 h1 => by
    obtain ⟨t, b, h1, h2, h3⟩ := h1
    refine ⟨Evl.sz_of (by decide : 2 ≤ 100000), fun p hp => ?_⟩
    have s2 := s1.newTo (o := .tup [.ty m, .ty n]) E.gd hp
    exact ⟨v, p, _, t, _, b, rfl, upd_same, .cons (.ty m) (.cons (.ty n) .nil), rep_ty (r1.mono (Ex.new (Ex.sub_none s1.gh hp))) s2.gh h1, h2, q _ _ _ _ s2 (.bl b) h3⟩
/-! ### a field -/
theorem Reps.look {K : PySem.W.Frag} {G : Hp} {f : Str} : ∀ {ns : List Str} {ys : List V} {ds : List Dt} {d : Dt}, Reps K G ys ds → (ns.zip ds).lookup f = some d → ∃ v, (ns.zip ys).lookup f = some v ∧ Rep K G v d
  | [], _, _, _, _, h => by simp at h
  | n :: ns, _, _, _, .nil, h => by simp at h
  | n :: ns, v :: vs, x :: ds, d, .cons r rs, h => by
    rw [List.zip_cons_cons, List.lookup_cons] at h ⊢
    cases e : f == n with
    | true =>
      rw [e] at h
      cases h
      exact ⟨v, rfl, r⟩
    | false =>
      rw [e] at h
      exact Reps.look rs h
theorem de_fld {f : Str} (h : DE c ta ρ fun d => ∃ C ns ds e, d = .ob C ns ds ∧ Cls c.K C ∧ NoAttr c.K C f ∧ (ns.zip ds).lookup f = some e ∧ P e) : DE c (tFld c.K ta f) ρ P := fun σ G H E Q q =>
  h σ G H E _ fun v d G1 H1 s1 r1 h1 => by
    obtain ⟨C, ns, ds, e, rfl, h1, h2, h3, h4⟩ := h1
    cases r1 with
    | @ob a _ dx _ ys _ g1 g2 r =>
      obtain ⟨w, h5, h6⟩ := r.look h3
      exact ⟨a, C, dx, _, w, rfl, s1.gh _ _ g1, h1, h2, h5, q _ _ G1 H1 s1 h6 h4⟩
/-! ### promises over data, calls -/
/-- a call that changes nothing that stood -/
def spD (K : PySem.W.Frag) (pre : List Dt → (Dt → Prop) → Prop) : Sp := fun vs H Q _ => ∃ (G : Hp) (ds : List Dt) (P : Dt → Prop), Ex G H ∧ Reps K G vs ds ∧ pre ds P ∧
  ∀ v d G' H', Ex G G' → Ex G' H' → (∀ a, H a ≠ none → G a = none → G' a = none ∧ H' a = H a) → Rep K G' v d → P d → Q v H'
/-- a call that draws from the hand, its first argument -/
def spH (K : PySem.W.Frag) (pre : List Dt → (Dt → Prop) → Prop) : Sp := fun vs H Q _ => ∃ (G : Hp) (l : Addr) (us : List V) (ds : List Dt) (P : Dt → Prop), vs = .ref l :: us ∧ Ex G H ∧ HandAt K G H l ∧ Reps K G us ds ∧ pre ds P ∧
  ∀ v d G' H', Ex G G' → Ex G' H' → (∀ a, H a ≠ none → G a = none → G' a = none ∧ (a ≠ l → H' a = H a)) → HandAt K G' H' l → Rep K G' v d → P d → Q v H'
theorem de_call {pre : List Dt → (Dt → Prop) → Prop} {tr : TA} {X : XK} (h : DA c tr ρ fun ds => pre ds P) : DE c (tCall (spD c.K pre) [] X tr) ρ P := fun σ G H E Q q =>
  h σ G H E _ fun vs ds G1 H1 s1 r1 h1 => ⟨G1, ds, P, s1.gh, by rw [List.append_nil]; exact r1, h1, fun v d G' H' gg gh fr r p =>
    q v d G' H' (s1.trans ((E.gd.step s1).stp gg gh fr)) r p⟩
theorem de_callD {pre : List Dt → (Dt → Prop) → Prop} {tr : TA} {X : XK} {dvs : List V} {dds : List Dt} (hd : ∀ G, Reps c.K G dvs dds) (h : DA c tr ρ fun ds => pre (ds ++ dds) P) : DE c (tCall (spD c.K pre) dvs X tr) ρ P := fun σ G H E Q q =>
  h σ G H E _ fun vs ds G1 H1 s1 r1 h1 => ⟨G1, ds ++ dds, P, s1.gh, r1.append (hd G1), h1, fun v d G' H' gg gh fr r p =>
    q v d G' H' (s1.trans ((E.gd.step s1).stp gg gh fr)) r p⟩
theorem de_callH {pre : List Dt → (Dt → Prop) → Prop} {tr : TA} {X : XK} {j : Nat} (hj : ρ[j]? = some .hand) (h : DA c tr ρ fun ds => pre ds P) : DE c (tCall (spH c.K pre) [] X (tCons (tVar j) tr)) ρ P := fun σ G H E Q q => by
  obtain ⟨l, e, hl⟩ := E.sl j _ hj
  refine ⟨.ref l, e, h σ G H E _ fun vs ds G1 H1 s1 r1 h1 => ?_⟩
  have gd1 := E.gd.step s1
  refine ⟨G1, l, vs, ds, P, by rw [List.append_nil], s1.gh, (gd1.hd l hl).2.2, r1, h1, fun v d G' H' gg gh fr ha r p => q v d G' H' (s1.trans ⟨gg, gh, fun a h1 h2 => ⟨(fr a h1 h2).1, fun z => (fr a h1 h2).2 fun z2 => z (by rw [z2]; exact hl)⟩, fun l' e' => ?_⟩) r p⟩
  rw [hl] at e'
  cases e'
  exact ha
/-! ### statements -/
variable {ts us : TS} {E : DEn} {g : TG} {gs : TGs}
theorem ds_next (p : E.nx ρ) : DS c tNext ρ E := fun σ G H I D nx rt bk ct => nx σ G H ρ (Ex.refl G) I p
theorem ds_break (p : E.bk ρ) : DS c tBreak ρ E := fun σ G H I D nx rt bk ct => bk σ G H ρ (Ex.refl G) I p
theorem ds_cont (p : E.ct ρ) : DS c tCont ρ E := fun σ G H I D nx rt bk ct => ct σ G H ρ (Ex.refl G) I p
theorem ds_seq (h : DS c ts ρ { E with nx := fun ρ' => DS c us ρ' E }) : DS c (tSeq ts us) ρ E := fun σ G H I D nx rt bk ct =>
  h σ G H I { D with nx := us D } (fun σ' G' H' ρ' e I' h' => h' σ' G' H' I' D (fun σ2 G2 H2 ρ2 e2 => nx σ2 G2 H2 ρ2 (e.trans e2)) rt (fun σ2 G2 H2 ρ2 e2 => bk σ2 G2 H2 ρ2 (e.trans e2)) fun σ2 G2 H2 ρ2 e2 => ct σ2 G2 H2 ρ2 (e.trans e2)) rt bk ct
theorem ds_ret (h : DE c te ρ fun d => E.rt ρ d) : DS c (tRet te) ρ E := fun σ G H I D nx rt bk ct => h σ G H I _ fun v d G1 H1 s r p => rt v d σ G1 H1 ρ (I.step s) r p
theorem ds_retN (p : E.rt ρ .non) : DS c tRetN ρ E := fun σ G H I D nx rt bk ct => rt _ _ σ G H ρ I .non p
theorem ds_drop (h : DE c te ρ fun _ => E.nx ρ) : DS c (tDrop te) ρ E := fun σ G H I D nx rt bk ct => h σ G H I _ fun v d G1 H1 s r p => nx σ G1 H1 ρ s.gg (I.step s) p
theorem ds_if (h : DT c tt ρ fun b => if b = true then DS c ts ρ E else DS c us ρ E) : DS c (tIfS tt ts us) ρ E := fun σ G H I D nx rt bk ct =>
  h σ G H I _ fun b G1 H1 s1 h1 => by
    cases b with
    | true => exact iteT (h1 σ G1 H1 (I.step s1) D (fun σ2 G2 H2 ρ2 e2 => nx σ2 G2 H2 ρ2 (s1.gg.trans e2)) rt (fun σ2 G2 H2 ρ2 e2 => bk σ2 G2 H2 ρ2 (s1.gg.trans e2)) fun σ2 G2 H2 ρ2 e2 => ct σ2 G2 H2 ρ2 (s1.gg.trans e2))
    | false => exact iteF (h1 σ G1 H1 (I.step s1) D (fun σ2 G2 H2 ρ2 e2 => nx σ2 G2 H2 ρ2 (s1.gg.trans e2)) rt (fun σ2 G2 H2 ρ2 e2 => bk σ2 G2 H2 ρ2 (s1.gg.trans e2)) fun σ2 G2 H2 ρ2 e2 => ct σ2 G2 H2 ρ2 (s1.gg.trans e2))
theorem DS.imp {E' : DEn} (h : DS c ts ρ E) (k1 : ∀ ρ, E.nx ρ → E'.nx ρ) (k2 : ∀ ρ d, E.rt ρ d → E'.rt ρ d) (k3 : ∀ ρ, E.bk ρ → E'.bk ρ) (k4 : ∀ ρ, E.ct ρ → E'.ct ρ) : DS c ts ρ E' := fun σ G H I D nx rt bk ct =>
  h σ G H I D (fun σ2 G2 H2 ρ2 e I2 p => nx σ2 G2 H2 ρ2 e I2 (k1 _ p)) (fun v d σ2 G2 H2 ρ2 I2 r p => rt v d σ2 G2 H2 ρ2 I2 r (k2 _ _ p)) (fun σ2 G2 H2 ρ2 e I2 p => bk σ2 G2 H2 ρ2 e I2 (k3 _ p)) (fun σ2 G2 H2 ρ2 e I2 p => ct σ2 G2 H2 ρ2 e I2 (k4 _ p))
/-! ### targets -/
theorem Env.setS {σ : L2.St} {G H : Hp} {v : V} {s : Sl} {i : Nat} (I : Env c σ G H ρ) (hi : i < ρ.length) (h : SlOk c G H (some (some v)) s)
    (ho : ∀ xs (j : Nat) ys a, s = .own xs → ρ[j]? = some (.own ys) → j ≠ i → v = .ref a → σ[j]? ≠ some (some (.ref a))) : Env c (σ.set i (some v)) G H (ρ.set i s) where
  gd := I.gd
  len := by rw [List.length_set, List.length_set]; exact I.len
  sl := fun j t e => by
    by_cases hj : i = j
    · subst hj
      rw [List.getElem?_set_self hi] at e
      cases e
      rw [List.getElem?_set_self (by rw [I.len]; exact hi)]
      exact h
    · rw [List.getElem?_set_ne hj] at e
      rw [List.getElem?_set_ne hj]
      exact I.sl j t e
  own := fun j k xs ys a h1 h2 h3 h4 => by
    by_cases hj : i = j
    · subst hj
      by_cases hk : i = k
      · exact hk
      · rw [List.getElem?_set_self hi] at h1
        rw [List.getElem?_set_ne hk] at h2 h4
        rw [List.getElem?_set_self (by rw [I.len]; exact hi)] at h3
        exact absurd h4 (ho xs k ys a (Option.some.inj h1) h2 (Ne.symm hk) (Option.some.inj (Option.some.inj h3)))
    · rw [List.getElem?_set_ne hj] at h1 h3
      by_cases hk : i = k
      · subst hk
        rw [List.getElem?_set_self hi] at h2
        rw [List.getElem?_set_self (by rw [I.len]; exact hi)] at h4
        exact absurd h3 (ho ys j xs a (Option.some.inj h2) h1 (Ne.symm hj) (Option.some.inj (Option.some.inj h4)))
      · rw [List.getElem?_set_ne hk] at h2 h4
        exact I.own j k xs ys a h1 h2 h3 h4
theorem Env.setD {σ : L2.St} {G H : Hp} {v : V} {i : Nat} (I : Env c σ G H ρ) (hi : i < ρ.length) (h : Rep c.K G v d) : Env c (σ.set i (some v)) G H (ρ.set i (.dt d)) :=
  I.setS hi ⟨v, rfl, h⟩ fun xs j ys a e => by cases e
theorem dg_name0 {i : Nat} {P : List Sl → Prop} (hi : Nat.ble (i + 1) ρ.length = true) (p : P (ρ.set i (.dt d))) : DG c (gName i) d ρ P := fun σ G H v I r Q q => q _ _ (I.setD (Nat.le_of_ble_eq_true hi) r) p
theorem dg_name {i : Nat} {P : List Sl → Prop} (hi : i < ρ.length) (p : P (ρ.set i (.dt d))) : DG c (gName i) d ρ P := fun σ G H v I r Q q => q _ _ (I.setD hi r) p
theorem dgs_nil {P : List Sl → Prop} (p : P ρ) : DGs c gNil [] ρ P := fun σ G H vs I r Q q => by
  cases r
  exact ⟨rfl, q σ ρ I p⟩
theorem dgs_cons {ds : List Dt} {P : List Sl → Prop} (h : DG c g d ρ fun ρ' => DGs c gs ds ρ' P) : DGs c (gCons g gs) (d :: ds) ρ P := fun σ G H vs I r Q q => by
  cases r with
  | @cons v vs _ _ r rs => exact ⟨v, vs, rfl, h σ G H v I r _ fun σ' ρ' I' h' => h' σ' G H vs I' rs Q q⟩
theorem dg_tup {n : Nat} {P : List Sl → Prop} (h : ∃ xs, d = .tup xs ∧ xs.length = n ∧ DGs c gs xs ρ P) : DG c (gTup c.K n gs) d ρ P := fun σ G H v I r Q q => by
  obtain ⟨xs, rfl, h1, h2⟩ := h
  cases r with
  | @tup a ys _ hT r => exact ⟨a, ys, rfl, Evl.ex_t I.gd.gh hT, by rw [r.length]; exact h1, h2 σ G H ys I r Q q⟩
/-! ### stores -/
theorem ds_asg (h : DE c te ρ fun d => DG c g d ρ E.nx) : DS c (tAsg te g) ρ E := fun σ G H I D nx rt bk ct =>
  h σ G H I _ fun v d G1 H1 s r p => p σ G1 H1 v (I.step s) r _ fun σ' ρ' I' p' => nx σ' G1 H1 ρ' s.gg I' p'
theorem ds_set {i : Nat} (hi : Nat.ble (i + 1) ρ.length = true) (h : DE c te ρ fun d => E.nx (ρ.set i (.dt d))) : DS c (tAsg te (gName i)) ρ E := ds_asg (h.imp fun d p => dg_name (Nat.le_of_ble_eq_true hi) p)
theorem ds_own {i : Nat} (hi : Nat.ble (i + 1) ρ.length = true) (h : DL c te ρ fun xs => E.nx (ρ.set i (.own xs))) : DS c (tAsg te (gName i)) ρ E := fun σ G H I D nx rt bk ct =>
  h σ G H I _ fun p ys xs G1 H1 s hp hg hh r e => by
    refine nx _ G1 H1 _ s.gg ((I.step s).setS (s := .own xs) (Nat.le_of_ble_eq_true hi) ⟨p, ys, rfl, hg, I.gd.h0 hp, hh, r⟩ fun xs' j zs a ex ej hj ea => ?_) e
    cases ea
    intro z
    obtain ⟨a', ys', e', g1', g2', g3', _⟩ := I.ownAt ej
    rw [z] at e'
    cases e'
    rw [hp] at g3'
    cases g3'
theorem ds_par {i j : Nat} {ta : TA} (hi : Nat.ble (i + 1) ρ.length = true) (hj : Nat.ble (j + 1) ρ.length = true) (h : DA c ta ρ fun ds => ∃ d e, ds = [d, e] ∧ E.nx ((ρ.set i (.dt d)).set j (.dt e))) : DS c (tPar i j ta) ρ E := fun σ G H I D nx rt bk ct =>
  h σ G H I _ fun vs ds G1 H1 s r p => by
    obtain ⟨d, e, rfl, p⟩ := p
    cases r with
    | @cons v _ _ _ r1 r =>
      cases r with
      | @cons w _ _ _ r2 r =>
        cases r
        exact ⟨v, w, rfl, nx _ G1 H1 _ s.gg (((I.step s).setD (Nat.le_of_ble_eq_true hi) r1).setD (by rw [List.length_set]; exact Nat.le_of_ble_eq_true hj) r2) p⟩
/-- one's own list changed -/
theorem Env.updOwn {σ : L2.St} {G H : Hp} {i : Nat} {a : Addr} {xs zs : List Dt} {ws : List V} (I : Env c σ G H ρ) (hi : ρ[i]? = some (.own xs)) (e : σ[i]? = some (some (.ref a))) (r : Reps c.K G ws zs) : Env c σ G (upd H a (.lst ws)) (ρ.set i (.own zs)) := by
  obtain ⟨a', ys, e', g1, g2, g3, _⟩ := I.ownAt hi
  rw [e] at e'
  cases e'
  have hil : i < ρ.length := (List.getElem?_eq_some_iff.mp hi).1
  have nl : ∀ l, c.hand = some l → l ≠ a := fun l hl z => (I.gd.hd l hl).1 (by rw [z]; exact g2)
  refine ⟨⟨fun b u z => ?_, I.gd.g0, fun b h1 h2 => ?_, fun l hl => ?_⟩, by rw [List.length_set]; exact I.len, fun j s hj => ?_, fun j k xs' ys' b h1 h2 h3 h4 => ?_⟩
  · rw [upd_ne (fun z2 => by rw [z2, g1] at z; cases z)]
    exact I.gd.gh _ _ z
  · have hb : b ≠ a := fun z => h1 (by rw [z]; exact g2)
    rw [upd_ne hb]
    exact I.gd.fr b h1 h2
  · obtain ⟨q1, q2, q3⟩ := I.gd.hd l hl
    exact ⟨q1, q2, q3.stay (Ex.refl G) q3.1 (upd_ne (nl l hl))⟩
  · by_cases hij : i = j
    · subst hij
      rw [List.getElem?_set_self hil] at hj
      cases hj
      exact ⟨a, ws, e, g1, g2, upd_same, r⟩
    · rw [List.getElem?_set_ne hij] at hj
      have q := I.sl j s hj
      cases s with
      | no => trivial
      | dt d => exact q
      | hand => exact q
      | raw v => exact q
      | own ys2 =>
        obtain ⟨b, vs, e2, k1, k2, k3, k4⟩ := q
        refine ⟨b, vs, e2, k1, k2, ?_, k4⟩
        rw [upd_ne]
        · exact k3
        · exact fun z => hij (I.own i j xs ys2 a hi hj e (by rw [e2, z]))
  · have f : ∀ {m : Nat} {vs : List Dt}, (ρ.set i (.own zs))[m]? = some (.own vs) → ∃ us, ρ[m]? = some (.own us) := fun {m vs} h => by
      by_cases him : i = m
      · subst him
        exact ⟨_, hi⟩
      · rw [List.getElem?_set_ne him] at h
        exact ⟨_, h⟩
    obtain ⟨_, h5⟩ := f h1
    obtain ⟨_, h6⟩ := f h2
    exact I.own j k _ _ b h5 h6 h3 h4
/-- xs.append(e) -/
theorem ds_app {i : Nat} {xs : List Dt} (hi : ρ[i]? = some (.own xs)) (hl : xs.length < 100000) (h : DE c te ρ fun d => E.nx (ρ.set i (.own (xs ++ [d])))) : DS c (tDrop (tBM c.K "list" rAppend (tVar i) (tCons te tNil))) ρ E := fun σ G H I D nx rt bk ct => by
  obtain ⟨a, ys, e, g1, g2, g3, r⟩ := I.ownAt hi
  refine ⟨.ref a, e, .inl ⟨rfl, ys, SqL.of g3⟩, h σ G H I _ fun v d G1 H1 s r1 p => ?_⟩
  have I1 := I.step s
  obtain ⟨a', ys', e', g1', g2', g3', r'⟩ := I1.ownAt hi
  rw [e] at e'
  cases e'
  exact ⟨a, ys', v, rfl, rfl, g3', Evl.sz_lt (by rw [r'.length]; exact hl), nx σ G1 _ _ s.gg (I1.updOwn hi e (r'.append (Reps.one r1))) p⟩
/-- xs[j] = e -/
theorem ds_put {i : Nat} {xs : List Dt} (hi : ρ[i]? = some (.own xs)) (h : DE c te ρ fun d => DE c tb ρ fun e => ∃ (k : Int) (j : Nat), e = .int k ∧ ixN xs.length k = some j ∧ E.nx (ρ.set i (.own (xs.set j d)))) : DS c (tAsg te (gSub (tVar i) tb rSetL)) ρ E := fun σ G H I D nx rt bk ct =>
  h σ G H I _ fun v d G1 H1 s1 r1 h1 => by
    have I1 := I.step s1
    obtain ⟨a, ys, e, g1, g2, g3, r⟩ := I1.ownAt hi
    refine ⟨.ref a, e, h1 σ G1 H1 I1 _ fun v2 d2 G2 H2 s2 r2 h2 => ?_⟩
    obtain ⟨k, j, rfl, h2, p⟩ := h2
    have I2 := I1.step s2
    obtain ⟨a', ys', e', g1', g2', g3', r'⟩ := I2.ownAt hi
    rw [e] at e'
    cases e'
    exact ⟨a, ys', k, j, rfl, rep_int r2, g3', by rw [r'.length]; exact h2, nx σ G2 _ _ (s1.trans s2).gg (I2.updOwn hi e (r'.set (r1.mono s2.gg) j)) p⟩
/-- one's own list is let go: from now on it stays as it is -/
theorem ds_freeze {i : Nat} {xs : List Dt} (hi : ρ[i]? = some (.own xs)) (h : DS c ts (ρ.set i (.dt (.lst xs))) E) : DS c ts ρ E := fun σ G H I D nx rt bk ct => by
  obtain ⟨a, ys, e, g1, g2, g3, r⟩ := I.ownAt hi
  have hil : i < ρ.length := (List.getElem?_eq_some_iff.mp hi).1
  have eg : Ex G (upd G a (.lst ys)) := Ex.new g1
  have nl : ∀ l, c.hand = some l → l ≠ a := fun l hl z => (I.gd.hd l hl).1 (by rw [z]; exact g2)
  refine h σ (upd G a (.lst ys)) H ⟨⟨fun b u z => ?_, I.gd.g0.trans eg, fun b h1 h2 => ?_, fun l hl => ?_⟩, by rw [List.length_set]; exact I.len, fun j s hj => ?_, fun j k xs' ys' b h1 h2 h3 h4 => ?_⟩ D
    (fun σ2 G2 H2 ρ2 e2 => nx σ2 G2 H2 ρ2 (eg.trans e2)) rt (fun σ2 G2 H2 ρ2 e2 => bk σ2 G2 H2 ρ2 (eg.trans e2)) fun σ2 G2 H2 ρ2 e2 => ct σ2 G2 H2 ρ2 (eg.trans e2)
  · by_cases hb : b = a
    · subst hb
      rw [upd_same] at z
      rw [g3]
      exact z
    · rw [upd_ne hb] at z
      exact I.gd.gh _ _ z
  · have hb : b ≠ a := fun z => h1 (by rw [z]; exact g2)
    rw [upd_ne hb]
    exact I.gd.fr b h1 h2
  · obtain ⟨q1, q2, q3⟩ := I.gd.hd l hl
    exact ⟨q1, q2, q3.stay eg (by rw [upd_ne (nl l hl)]; exact q3.1) rfl⟩
  · by_cases hij : i = j
    · subst hij
      rw [List.getElem?_set_self hil] at hj
      cases hj
      exact ⟨_, e, .lst upd_same (r.mono eg)⟩
    · rw [List.getElem?_set_ne hij] at hj
      have q := I.sl j s hj
      cases s with
      | no => trivial
      | dt d =>
        obtain ⟨v, q1, q2⟩ := q
        exact ⟨v, q1, q2.mono eg⟩
      | hand => exact q
      | raw v => exact q
      | own ys2 =>
        obtain ⟨b, vs, e2, k1, k2, k3, k4⟩ := q
        refine ⟨b, vs, e2, ?_, k2, k3, k4.mono eg⟩
        rw [upd_ne]
        · exact k1
        · exact fun z => hij (I.own i j xs ys2 a hi hj e (by rw [e2, z]))
  · have f : ∀ {m : Nat} {vs : List Dt}, (ρ.set i (.dt (.lst xs)))[m]? = some (.own vs) → ρ[m]? = some (.own vs) := fun {m vs} h => by
      by_cases him : i = m
      · subst him
        rw [List.getElem?_set_self hil] at h
        cases h
      · rw [List.getElem?_set_ne him] at h
        exact h
    exact I.own j k _ _ b (f h1) (f h2) h3 h4
/-- return xs, one's own -/
theorem ds_ret_own {i : Nat} {xs : List Dt} (hi : ρ[i]? = some (.own xs)) (p : E.rt (ρ.set i (.dt (.lst xs))) (.lst xs)) : DS c (tRet (tVar i)) ρ E :=
  ds_freeze hi (ds_ret (de_var (by rw [List.getElem?_set_self (List.getElem?_eq_some_iff.mp hi).1]) p))
/-- what a slot is known to hold is forgotten -/
theorem Env.weak {σ : L2.St} {G H : Hp} {ρ' : List Sl} (I : Env c σ G H ρ) (hl : ρ'.length = ρ.length) (h : ∀ (i : Nat) (s : Sl), ρ'[i]? = some s → s = .no ∨ ρ[i]? = some s) : Env c σ G H ρ' :=
  ⟨I.gd, by rw [hl]; exact I.len, fun i s e => (h i s e).elim (fun z => by rw [z]; trivial) fun z => I.sl i s z, fun i j xs ys a h1 h2 h3 h4 =>
    I.own i j xs ys a ((h i _ h1).resolve_left fun z => by cases z) ((h j _ h2).resolve_left fun z => by cases z) h3 h4⟩
end
end K20
/-! Dl4: loops, comprehensions, a def's body over data. -/
namespace K20
open PySem L2
open Evl (Ex)
open PyProof.Rows (envOfC)
section
variable {c : Ctx} {te ta tb tc : TE} {tt tu : TT} {tr : TA} {ρ : List Sl} {P P' : Dt → Prop} {d : Dt} {ts us : TS} {E : DEn} {g : TG} {gs : TGs}
/-- one turn of a for -/
def DTurn (c : Ctx) (g : TG) (ts : TS) (E : DEn) (I : Nat → List Sl → Prop) (i : Nat) (d : Dt) (ρ : List Sl) : Prop :=
  DG c g d ρ fun ρ2 => DS c ts ρ2 { nx := I (i + 1), rt := E.rt, bk := E.nx, ct := I (i + 1) }
/-- what holds at a turn, with the frozen part grown -/
def PvOf (c : Ctx) (G1 : Hp) (I : Nat → List Sl → Prop) (i : Nat) (σ : L2.St) (H : Hp) : Prop := ∃ G ρ, Ex G1 G ∧ Env c σ G H ρ ∧ I i ρ
theorem turn_run {G0 G1 : Hp} {I : Nat → List Sl → Prop} {i : Nat} {D : Ends} {σ : L2.St} {G H : Hp} {v : V} {ρ : List Sl} (e01 : Ex G0 G1)
    (nx : ∀ σ' G' H' ρ', Ex G0 G' → Env c σ' G' H' ρ' → E.nx ρ' → D.nx σ' H') (rt : ∀ v d σ' G' H' ρ', Env c σ' G' H' ρ' → Rep c.K G' v d → E.rt ρ' d → D.rt v H')
    (e1 : Ex G1 G) (Iv : Env c σ G H ρ) (r : Rep c.K G v d) (h : DTurn c g ts E I i d ρ) :
    g v σ H fun σ2 H2 => ts { D with nx := PvOf c G1 I (i + 1), ct := PvOf c G1 I (i + 1), bk := D.nx } σ2 H2 :=
  h σ G H v Iv r _ fun σ2 ρ2 I2 q => q σ2 G H I2 { D with nx := PvOf c G1 I (i + 1), ct := PvOf c G1 I (i + 1), bk := D.nx }
    (fun σ3 G3 H3 ρ3 e3 I3 p => ⟨G3, ρ3, e1.trans e3, I3, p⟩) rt (fun σ3 G3 H3 ρ3 e3 I3 p => nx σ3 G3 H3 ρ3 ((e01.trans e1).trans e3) I3 p) (fun σ3 G3 H3 ρ3 e3 I3 p => ⟨G3, ρ3, e1.trans e3, I3, p⟩)
theorem ds_forT (I : List Dt → Nat → List Sl → Prop) (h : DE c te ρ fun d => ∃ xs, d = .tup xs ∧ I xs 0 ρ ∧ (∀ (i : Nat) x ρ', xs[i]? = some x → I xs i ρ' → DTurn c g ts E (I xs) i x ρ') ∧ ∀ ρ', I xs xs.length ρ' → E.nx ρ') :
    DS c (tFor (iTup c.K te) g ts) ρ E := fun σ G H Iv D nx rt bk ct =>
  h σ G H Iv _ fun v d G1 H1 s r p => by
    obtain ⟨xs, rfl, h0, hs, hd⟩ := p
    cases r with
    | @tup a ys _ hT r =>
      refine ⟨a, rfl, ⟨ys, Evl.ex_t s.gh hT⟩, for_tup (K := c.K) (a := a) (xs := ys) (PvOf c G1 (I xs)) ⟨G1, ρ, Ex.refl G1, Iv.step s, h0⟩ (fun i σ' H' _ ⟨G', ρ', e, I', _⟩ => Evl.ex_t (e.trans I'.gd.gh) hT) ?_ ?_⟩
      · rintro i x σ' H' hx ⟨G', ρ', e, I', p⟩
        obtain ⟨d, hd', rd⟩ := r.getV hx
        exact turn_run s.gg nx rt e I' (rd.mono e) (hs i d ρ' hd' p)
      · rintro σ' H' ⟨G', ρ', e, I', p⟩
        rw [r.length] at p
        exact nx σ' G' H' ρ' (s.gg.trans e) I' (hd ρ' p)
theorem ds_forL (I : List Dt → Nat → List Sl → Prop) (h : DE c te ρ fun d => ∃ xs, (d = .lst xs ∨ ∃ ns, d = .scr ns ∧ xs = ns.map .int) ∧ I xs 0 ρ ∧ (∀ (i : Nat) x ρ', xs[i]? = some x → I xs i ρ' → DTurn c g ts E (I xs) i x ρ') ∧ ∀ ρ', I xs xs.length ρ' → E.nx ρ') :
    DS c (tFor (iList c.K te) g ts) ρ E := fun σ G H Iv D nx rt bk ct =>
  h σ G H Iv _ fun v d G1 H1 s r p => by
    obtain ⟨xs, hx, h0, hs, hd⟩ := p
    obtain ⟨a, ys, rfl, hL, r⟩ : ∃ (a : Addr) (ys : List V), v = .ref a ∧ SqL c.K G1 a ys ∧ Reps c.K G1 ys xs := by
      rcases hx with rfl | ⟨ns, rfl, rfl⟩
      · cases r with
        | lst h r => exact ⟨_, _, rfl, SqL.of h, r⟩
      · cases r with
        | scr h => exact ⟨_, _, rfl, h, Reps.ints ns⟩
    refine ⟨a, rfl, ⟨ys, Evl.ex_l s.gh hL⟩, for_list (K := c.K) (a := a) (xs := ys) (PvOf c G1 (I xs)) ⟨G1, ρ, Ex.refl G1, Iv.step s, h0⟩ (fun i σ' H' _ ⟨G', ρ', e, I', _⟩ => Evl.ex_l (e.trans I'.gd.gh) hL) ?_ ?_⟩
    · rintro i x σ' H' hx ⟨G', ρ', e, I', p⟩
      obtain ⟨d, hd', rd⟩ := r.getV hx
      exact turn_run s.gg nx rt e I' (rd.mono e) (hs i d ρ' hd' p)
    · rintro σ' H' ⟨G', ρ', e, I', p⟩
      rw [r.length] at p
      exact nx σ' G' H' ρ' (s.gg.trans e) I' (hd ρ' p)
def bR (j : Int) : Prop := -(2 ^ 62) ≤ j ∧ j < 2 ^ 62
theorem ds_forR1 (I : Nat → List Sl → Prop) {ta : TA} (h : DA c ta ρ fun ds => ∃ n : Int, ds = [.int n] ∧ bR n ∧ I 0 ρ ∧ (∀ (i : Nat) ρ', (i : Int) < n → I i ρ' → DTurn c g ts E I i (.int i) ρ') ∧ ∀ ρ', I n.toNat ρ' → E.nx ρ') :
    DS c (tFor (iRng1 ta) g ts) ρ E := fun σ G H Iv D nx rt bk ct =>
  h σ G H Iv _ fun vs ds G1 H1 s r p => by
    obtain ⟨n, rfl, ⟨b1, b2⟩, h0, hs, hd⟩ := p
    cases r with
    | @cons v _ _ _ r1 r =>
      cases r
      cases r1
      refine ⟨n, rfl, b1, b2, for_range (lo := 0) (n := n.toNat) (PvOf c G1 I) ⟨G1, ρ, Ex.refl G1, Iv.step s, h0⟩ ?_ ?_⟩
      · rintro i σ' H' hi ⟨G', ρ', e, I', p⟩
        rw [Int.zero_add]
        exact turn_run s.gg nx rt e I' (.int _) (hs i ρ' (by omega) p)
      · rintro σ' H' ⟨G', ρ', e, I', p⟩
        exact nx σ' G' H' ρ' (s.gg.trans e) I' (hd ρ' p)
theorem ds_forR2 (I : Nat → List Sl → Prop) {ta : TA} (h : DA c ta ρ fun ds => ∃ lo n : Int, ds = [.int lo, .int n] ∧ bR lo ∧ bR n ∧ I 0 ρ ∧ (∀ (i : Nat) ρ', lo + (i : Int) < n → I i ρ' → DTurn c g ts E I i (.int (lo + i)) ρ') ∧ ∀ ρ', I (n - lo).toNat ρ' → E.nx ρ') :
    DS c (tFor (iRng2 ta) g ts) ρ E := fun σ G H Iv D nx rt bk ct =>
  h σ G H Iv _ fun vs ds G1 H1 s r p => by
    obtain ⟨lo, n, rfl, ⟨b1, b2⟩, ⟨b3, b4⟩, h0, hs, hd⟩ := p
    cases r with
    | @cons v _ _ _ r1 r =>
      cases r with
      | @cons v _ _ _ r2 r =>
        cases r
        cases r1
        cases r2
        refine ⟨lo, n, rfl, ⟨b1, b2, b3, b4⟩, for_range (lo := lo) (n := (n - lo).toNat) (PvOf c G1 I) ⟨G1, ρ, Ex.refl G1, Iv.step s, h0⟩ ?_ ?_⟩
        · rintro i σ' H' hi ⟨G', ρ', e, I', p⟩
          exact turn_run s.gg nx rt e I' (.int _) (hs i ρ' (by omega) p)
        · rintro σ' H' ⟨G', ρ', e, I', p⟩
          exact nx σ' G' H' ρ' (s.gg.trans e) I' (hd ρ' p)
/-- range(lo, n, -1) -/
theorem ds_forR3 (I : Nat → List Sl → Prop) {ta : TA} (h : DA c ta ρ fun ds => ∃ lo n : Int, ds = [.int lo, .int n, .int (-1)] ∧ bR lo ∧ bR n ∧ I 0 ρ ∧ (∀ (i : Nat) ρ', n < lo - (i : Int) → I i ρ' → DTurn c g ts E I i (.int (lo - i)) ρ') ∧ ∀ ρ', I (lo - n).toNat ρ' → E.nx ρ') :
    DS c (tFor (iRng3 ta) g ts) ρ E := fun σ G H Iv D nx rt bk ct =>
  h σ G H Iv _ fun vs ds G1 H1 s r p => by
    obtain ⟨lo, n, rfl, ⟨b1, b2⟩, ⟨b3, b4⟩, h0, hs, hd⟩ := p
    cases r with
    | @cons v _ _ _ r1 r =>
      cases r with
      | @cons v _ _ _ r2 r =>
        cases r with
        | @cons v _ _ _ r3 r =>
          cases r
          cases r1
          cases r2
          cases r3
          refine ⟨lo, n, -1, (lo - n).toNat, rfl, RgC.neg b1 b2 b3 b4, for_rangeC (lo := lo) (c := -1) (n := (lo - n).toNat) (PvOf c G1 I) ⟨G1, ρ, Ex.refl G1, Iv.step s, h0⟩ ?_ ?_⟩
          · rintro i σ' H' hi ⟨G', ρ', e, I', p⟩
            have q : lo + (i : Int) * -1 = lo - i := by omega
            rw [q]
            exact turn_run s.gg nx rt e I' (.int _) (hs i ρ' (by omega) p)
          · rintro σ' H' ⟨G', ρ', e, I', p⟩
            exact nx σ' G' H' ρ' (s.gg.trans e) I' (hd ρ' p)
theorem ds_while (I : List Sl → Prop) (μ : List Sl → Nat) (h0 : I ρ) (h : ∀ ρ', I ρ' → DT c tt ρ' fun b => if b = true then DS c ts ρ' { nx := fun ρ2 => I ρ2 ∧ μ ρ2 < μ ρ', rt := E.rt, bk := E.nx, ct := fun ρ2 => I ρ2 ∧ μ ρ2 < μ ρ' } else E.nx ρ') :
    DS c (tWhile tt ts) ρ E := fun σ G H Iv D nx rt bk ct => by
  refine ⟨fun m σ' H' => ∃ G' ρ', Ex G G' ∧ Env c σ' G' H' ρ' ∧ I ρ' ∧ μ ρ' = m, ⟨_, G, ρ, Ex.refl G, Iv, h0, rfl⟩, ?_⟩
  rintro m σ' H' ⟨G', ρ', e, I', p, rfl⟩
  refine h ρ' p σ' G' H' I' _ fun b G1 H1 s q => ?_
  cases b with
  | true =>
    rw [if_pos rfl] at q ⊢
    refine ⟨fun σ2 H2 => ∃ G2 ρ2, Ex G G2 ∧ Env c σ2 G2 H2 ρ2 ∧ I ρ2 ∧ μ ρ2 < μ ρ', fun σ2 H2 ⟨G2, ρ2, e2, I2, p2, l⟩ => ⟨_, l, G2, ρ2, e2, I2, p2, rfl⟩, q σ' G1 H1 (I'.step s) _ ?_ rt ?_ ?_⟩
    · exact fun σ2 G2 H2 ρ2 e2 I2 p2 => ⟨G2, ρ2, (e.trans s.gg).trans e2, I2, p2⟩
    · exact fun σ2 G2 H2 ρ2 e2 I2 p2 => nx σ2 G2 H2 ρ2 ((e.trans s.gg).trans e2) I2 p2
    · exact fun σ2 G2 H2 ρ2 e2 I2 p2 => ⟨G2, ρ2, (e.trans s.gg).trans e2, I2, p2⟩
  | false =>
    rw [if_neg Bool.false_ne_true] at q ⊢
    exact nx σ' G1 H1 ρ' (e.trans s.gg) (I'.step s) q
/-! ### comprehensions -/
def wipeD (ρ : List Sl) : List Nat → List Sl
  | [] => ρ
  | j :: js => (wipeD ρ js).set j .no
theorem Env.unset {σ : L2.St} {G H : Hp} {j : Nat} (I : Env c σ G H ρ) : Env c (σ.set j none) G H (ρ.set j .no) where
  gd := I.gd
  len := by rw [List.length_set, List.length_set]; exact I.len
  sl := fun i s e => by
    by_cases hj : j = i
    · subst hj
      by_cases hl : j < ρ.length
      · rw [List.getElem?_set_self hl] at e
        cases e
        trivial
      · rw [List.getElem?_eq_none (by rw [List.length_set]; omega)] at e
        cases e
    · rw [List.getElem?_set_ne hj] at e
      rw [List.getElem?_set_ne hj]
      exact I.sl i s e
  own := fun i k xs ys a h1 h2 h3 h4 => by
    have f : ∀ {m : Nat} {vs : List Dt}, (ρ.set j .no)[m]? = some (.own vs) → ρ[m]? = some (.own vs) ∧ j ≠ m := fun {m vs} h => by
      by_cases him : j = m
      · subst him
        by_cases hl : j < ρ.length
        · rw [List.getElem?_set_self hl] at h
          cases h
        · rw [List.getElem?_eq_none (by rw [List.length_set]; omega)] at h
          cases h
      · rw [List.getElem?_set_ne him] at h
        exact ⟨h, him⟩
    obtain ⟨k1, n1⟩ := f h1
    obtain ⟨k2, n2⟩ := f h2
    rw [List.getElem?_set_ne n1] at h3
    rw [List.getElem?_set_ne n2] at h4
    exact I.own i k xs ys a k1 k2 h3 h4
theorem Env.wiped {σ : L2.St} {G H : Hp} (I : Env c σ G H ρ) : ∀ js : List Nat, Env c (wipe σ js) G H (wipeD ρ js)
  | [] => I
  | j :: js => (Env.wiped I js).unset
/-- a state in a comprehension: the new list at D, which none of the slots knows -/
structure LcAt (c : Ctx) (σ : L2.St) (ρ : List Sl) (G1 H1 : Hp) (D : Addr) (acc : List Dt) (H : Hp) : Prop where
  ex : ∃ G ys, Stp c G1 H1 G H ∧ G D = none ∧ H D = some (.lst ys) ∧ Reps c.K G ys acc
theorem lc_start {σ : L2.St} {G1 H1 : Hp} {D : Addr} (I : Env c σ G1 H1 ρ) (hD : H1 D = none) : LcAt c σ ρ G1 H1 D [] (upd H1 D (.lst [])) :=
  ⟨G1, [], I.gd.newOwn hD, Ex.sub_none I.gd.gh hD, upd_same, .nil⟩
/-- the new list, behind an element's turn -/
theorem lc_turn {σ : L2.St} {G1 H1 G2 H2 G3 H3 : Hp} {D : Addr} {acc : List Dt} {ys : List V} {y : V} {d : Dt} (I : Env c σ G1 H1 ρ) (hD : H1 D = none) (s2 : Stp c G1 H1 G2 H2) (g2 : G2 D = none) (h2 : H2 D = some (.lst ys)) (r2 : Reps c.K G2 ys acc)
    (s3 : Stp c G2 H2 G3 H3) (r : Rep c.K G3 y d) : H3 D = some (.lst ys) ∧ LcAt c σ ρ G1 H1 D (acc ++ [d]) (upd H3 D (.lst (ys ++ [y]))) := by
  have nh : c.hand ≠ some D := fun z => (I.gd.hd D z).2.2.some hD
  have q := s3.fr D (by rw [h2]; exact fun z => by cases z) g2
  have e3 : H3 D = some (.lst ys) := (q.2 nh).trans h2
  refine ⟨e3, G3, ys ++ [y], ⟨(s2.trans s3).gg, fun b u z => ?_, fun a h1 h2 => ?_, fun l hl => ?_⟩, q.1, upd_same, (r2.mono s3.gg).append (Reps.one r)⟩
  · rw [upd_ne (fun z2 => by rw [z2, q.1] at z; cases z)]
    exact s3.gh _ _ z
  · have hb : a ≠ D := fun z => h1 (by rw [z]; exact hD)
    rw [upd_ne hb]
    exact (s2.trans s3).fr a h1 h2
  · have h3 := s3.hd l hl
    exact h3.stay (Ex.refl G3) h3.1 (upd_ne fun z => nh (by rw [← z]; exact hl))
theorem lc_keep {σ : L2.St} {G1 H1 G2 H2 G3 H3 : Hp} {D : Addr} {acc : List Dt} {ys : List V} (I : Env c σ G1 H1 ρ) (hD : H1 D = none) (s2 : Stp c G1 H1 G2 H2) (g2 : G2 D = none) (h2 : H2 D = some (.lst ys)) (r2 : Reps c.K G2 ys acc)
    (s3 : Stp c G2 H2 G3 H3) : LcAt c σ ρ G1 H1 D acc H3 := by
  have nh : c.hand ≠ some D := fun z => (I.gd.hd D z).2.2.some hD
  have q := s3.fr D (by rw [h2]; exact fun z => by cases z) g2
  exact ⟨G3, ys, s2.trans s3, q.1, (q.2 nh).trans h2, r2.mono s3.gg⟩
/-- the target stores into the block's own slots alone -/
def HwOk (g : TG) (js : List Nat) : Prop := ∀ v σ H (Q : L2.St → Hp → Prop), g v (wipe σ js) H Q → g v (wipe σ js) H fun σ2 H2 => wipe σ2 js = wipe σ js ∧ Q σ2 H2
theorem hw_name {j : Nat} : HwOk (gName j) [j] := fun v σ H Q q => ⟨by simp only [wipe, List.set_set], q⟩
theorem hw_tup2 {K : PySem.W.Frag} {i j : Nat} (hij : i ≠ j) : HwOk (gTup K 2 (gCons (gName i) (gCons (gName j) gNil))) [i, j] := fun v σ H Q q => by
  obtain ⟨a, xs, e, h1, h2, v, r, e2, w, r2, e3, e4, q⟩ := q
  refine ⟨a, xs, e, h1, h2, v, r, e2, w, r2, e3, e4, ?_, q⟩
  simp only [wipe]
  apply List.ext_getElem?
  intro n
  simp only [List.getElem?_set, List.length_set]
  by_cases h1 : i = n <;> by_cases h2 : j = n <;> simp [h1, h2] <;> (try (split <;> simp_all))
/-- one turn: from the target's slots on -/
def DLt (c : Ctx) (g : TG) (tt : TT) (te : TE) (js : List Nat) (d : Dt) (ρ : List Sl) (acc : List Dt) (N : List Dt → Prop) : Prop :=
  DG c g d (wipeD ρ js) fun ρ2 => DT c tt ρ2 fun b => if b = true then DE c te ρ2 fun e => acc.length < 100000 ∧ N (acc ++ [e]) else N acc
theorem lt_run {σ : L2.St} {G1 H1 H : Hp} {D : Addr} {acc : List Dt} {x : V} {d : Dt} {js : List Nat} {N : List Dt → Prop} {Pn : Hp → Prop} (I : Env c σ G1 H1 ρ) (hD : H1 D = none) (L : LcAt c σ ρ G1 H1 D acc H)
    (hw : HwOk g js) (hx : ∀ G, Ex G1 G → Rep c.K G x d) (h : DLt c g tt te js d ρ acc N) (hN : ∀ acc' H', LcAt c σ ρ G1 H1 D acc' H' → N acc' → Pn H') :
    g x (wipe σ js) H fun σ2 H2 => wipe σ2 js = wipe σ js ∧ tt σ2 H2 fun b H3 => if b = true then te σ2 H3 fun y H4 => ∃ acc, H4 D = some (.lst acc) ∧ acc.length < sizeLine ∧ Pn (upd H4 D (.lst (acc ++ [y]))) else Pn H3 := by
  obtain ⟨G, ys, s, g0, hh, r⟩ := L.ex
  have Iw := (I.step s).wiped js
  have q := h (wipe σ js) G H x Iw (hx G s.gg) (fun σ2 H2 => tt σ2 H2 fun b H3 => if b = true then te σ2 H3 fun y H4 => ∃ acc, H4 D = some (.lst acc) ∧ acc.length < sizeLine ∧ Pn (upd H4 D (.lst (acc ++ [y]))) else Pn H3) fun σ2 ρ2 I2 q => by
    refine q σ2 G H I2 _ fun b G3 H3 s3 h3 => ?_
    cases b with
    | true =>
      rw [if_pos rfl] at h3 ⊢
      refine h3 σ2 G3 H3 (I2.step s3) _ fun y e G4 H4 s4 r4 h4 => ?_
      obtain ⟨e3, L'⟩ := lc_turn I hD s g0 hh r (s3.trans s4) r4
      exact ⟨ys, e3, Evl.sz_lt (by rw [r.length]; exact h4.1), hN _ _ L' h4.2⟩
    | false =>
      rw [if_neg Bool.false_ne_true] at h3 ⊢
      exact hN _ _ (lc_keep I hD s g0 hh r s3) h3
  exact hw x σ H _ q
/-- over a list or tuple -/
theorem dl_lcL {js : List Nat} {P : List Dt → Prop} (hw : HwOk g js) (I : List Dt → Nat → List Dt → Prop) (h : DE c te ρ fun d => ∃ xs, (d = .lst xs ∨ ∃ ns, d = .scr ns ∧ xs = ns.map .int) ∧ I xs 0 [] ∧ (∀ (i : Nat) x acc, xs[i]? = some x → I xs i acc → DLt c g tt tb js x ρ acc (I xs (i + 1))) ∧ ∀ acc, I xs xs.length acc → P acc) :
    DL c (tLc (iList c.K te) g tt tb js) ρ P := fun σ G H Iv Q q =>
  h σ G H Iv _ fun v d G1 H1 s r p => by
    obtain ⟨xs, hx, h0, hs, hd⟩ := p
    obtain ⟨a, ys, rfl, hL, r⟩ : ∃ (a : Addr) (ys : List V), v = .ref a ∧ SqL c.K G1 a ys ∧ Reps c.K G1 ys xs := by
      rcases hx with rfl | ⟨ns, rfl, rfl⟩
      · cases r with
        | lst h r => exact ⟨_, _, rfl, SqL.of h, r⟩
      · cases r with
        | scr h => exact ⟨_, _, rfl, h, Reps.ints ns⟩
    have I1 := Iv.step s
    refine ⟨a, rfl, ⟨ys, Evl.ex_l s.gh hL⟩, fun D hD => lc_list (K := c.K) (a := a) (xs := ys) (fun i H' => ∃ acc, LcAt c σ ρ G1 H1 D acc H' ∧ I xs i acc) ⟨[], lc_start I1 hD, h0⟩ (fun i H' _ ⟨acc, L, _⟩ => by
      obtain ⟨G, _, s', _⟩ := L.ex
      exact Evl.ex_l (s'.gg.trans s'.gh) hL) ?_ ?_⟩
    · rintro i x H' hx ⟨acc, L, p⟩
      obtain ⟨d, hd', rd⟩ := r.getV hx
      exact lt_run I1 hD L hw (fun G e => rd.mono e) (hs i d acc hd' p) fun acc' H2 L' n => ⟨acc', L', n⟩
    · rintro H' ⟨acc, L, p⟩
      obtain ⟨G, zs, s', g0, hh, r'⟩ := L.ex
      rw [r.length] at p
      exact q D zs acc G H' (s.trans s') (s.back hD) g0 hh r' (hd acc p)
theorem dl_lcT {js : List Nat} {P : List Dt → Prop} (hw : HwOk g js) (I : List Dt → Nat → List Dt → Prop) (h : DE c te ρ fun d => ∃ xs, d = .tup xs ∧ I xs 0 [] ∧ (∀ (i : Nat) x acc, xs[i]? = some x → I xs i acc → DLt c g tt tb js x ρ acc (I xs (i + 1))) ∧ ∀ acc, I xs xs.length acc → P acc) :
    DL c (tLc (iTup c.K te) g tt tb js) ρ P := fun σ G H Iv Q q =>
  h σ G H Iv _ fun v d G1 H1 s r p => by
    obtain ⟨xs, rfl, h0, hs, hd⟩ := p
    cases r with
    | @tup a ys _ hT r =>
      have I1 := Iv.step s
      refine ⟨a, rfl, ⟨ys, Evl.ex_t s.gh hT⟩, fun D hD => lc_tup (K := c.K) (a := a) (xs := ys) (fun i H' => ∃ acc, LcAt c σ ρ G1 H1 D acc H' ∧ I xs i acc) ⟨[], lc_start I1 hD, h0⟩ (fun i H' _ ⟨acc, L, _⟩ => by
        obtain ⟨G, _, s', _⟩ := L.ex
        exact Evl.ex_t (s'.gg.trans s'.gh) hT) ?_ ?_⟩
      · rintro i x H' hx ⟨acc, L, p⟩
        obtain ⟨d, hd', rd⟩ := r.getV hx
        exact lt_run I1 hD L hw (fun G e => rd.mono e) (hs i d acc hd' p) fun acc' H2 L' n => ⟨acc', L', n⟩
      · rintro H' ⟨acc, L, p⟩
        obtain ⟨G, zs, s', g0, hh, r'⟩ := L.ex
        rw [r.length] at p
        exact q D zs acc G H' (s.trans s') (s.back hD) g0 hh r' (hd acc p)
theorem dl_lcR1 {js : List Nat} {ta : TA} {P : List Dt → Prop} (hw : HwOk g js) (I : Nat → List Dt → Prop) (h : DA c ta ρ fun ds => ∃ n : Int, ds = [.int n] ∧ bR n ∧ I 0 [] ∧ (∀ (i : Nat) acc, (i : Int) < n → I i acc → DLt c g tt tb js (.int i) ρ acc (I (i + 1))) ∧ ∀ acc, I n.toNat acc → P acc) :
    DL c (tLc (iRng1 ta) g tt tb js) ρ P := fun σ G H Iv Q q =>
  h σ G H Iv _ fun vs ds G1 H1 s r p => by
    obtain ⟨n, rfl, ⟨b1, b2⟩, h0, hs, hd⟩ := p
    cases r with
    | @cons v _ _ _ r1 r =>
      cases r
      cases r1
      have I1 := Iv.step s
      refine ⟨n, rfl, b1, b2, fun D hD => lc_range (lo := 0) (n := n.toNat) (fun i H' => ∃ acc, LcAt c σ ρ G1 H1 D acc H' ∧ I i acc) ⟨[], lc_start I1 hD, h0⟩ ?_ ?_⟩
      · rintro i H' hi ⟨acc, L, p⟩
        rw [Int.zero_add]
        exact lt_run I1 hD L hw (fun G e => .int _) (hs i acc (by omega) p) fun acc' H2 L' n => ⟨acc', L', n⟩
      · rintro H' ⟨acc, L, p⟩
        obtain ⟨G, zs, s', g0, hh, r'⟩ := L.ex
        exact q D zs acc G H' (s.trans s') (s.back hD) g0 hh r' (hd acc p)
theorem dl_lcR2 {js : List Nat} {ta : TA} {P : List Dt → Prop} (hw : HwOk g js) (I : Nat → List Dt → Prop) (h : DA c ta ρ fun ds => ∃ lo n : Int, ds = [.int lo, .int n] ∧ bR lo ∧ bR n ∧ I 0 [] ∧ (∀ (i : Nat) acc, lo + (i : Int) < n → I i acc → DLt c g tt tb js (.int (lo + i)) ρ acc (I (i + 1))) ∧ ∀ acc, I (n - lo).toNat acc → P acc) :
    DL c (tLc (iRng2 ta) g tt tb js) ρ P := fun σ G H Iv Q q =>
  h σ G H Iv _ fun vs ds G1 H1 s r p => by
    obtain ⟨lo, n, rfl, ⟨b1, b2⟩, ⟨b3, b4⟩, h0, hs, hd⟩ := p
    cases r with
    | @cons v _ _ _ r1 r =>
      cases r with
      | @cons v _ _ _ r2 r =>
        cases r
        cases r1
        cases r2
        have I1 := Iv.step s
        refine ⟨lo, n, rfl, ⟨b1, b2, b3, b4⟩, fun D hD => lc_range (lo := lo) (n := (n - lo).toNat) (fun i H' => ∃ acc, LcAt c σ ρ G1 H1 D acc H' ∧ I i acc) ⟨[], lc_start I1 hD, h0⟩ ?_ ?_⟩
        · rintro i H' hi ⟨acc, L, p⟩
          exact lt_run I1 hD L hw (fun G e => .int _) (hs i acc (by omega) p) fun acc' H2 L' n => ⟨acc', L', n⟩
        · rintro H' ⟨acc, L, p⟩
          obtain ⟨G, zs, s', g0, hh, r'⟩ := L.ex
          exact q D zs acc G H' (s.trans s') (s.back hD) g0 hh r' (hd acc p)
theorem dt_yes {P : Bool → Prop} (p : P true) : DT c tYes ρ P := fun σ G H E Q q => q true G H E.gd.refl p
theorem dlt_yes {js : List Nat} {acc : List Dt} {N : List Dt → Prop} (h : DG c g d (wipeD ρ js) fun ρ2 => DE c tb ρ2 fun e => acc.length < 100000 ∧ N (acc ++ [e])) : DLt c g tYes tb js d ρ acc N := fun σ G H v I r Q q =>
  h σ G H v I r Q fun σ' ρ' I' p => q σ' ρ' I' (dt_yes (by rw [if_pos rfl]; exact p))
end
/-! ### a def's body -/
def start9 (N : List Str) (ds : List Dt) : List Sl := ds.map .dt ++ List.replicate (N.length - ds.length) .no
section
variable {K : PySem.W.Frag} {G H : Hp} {N : List Str} {vs : List V} {ds : List Dt}
theorem start_len (r : Reps K G vs ds) : (L2.start N vs).length = (start9 N ds).length := by
  unfold L2.start start9
  rw [List.length_append, List.length_append, List.length_map, List.length_map, List.length_replicate, List.length_replicate, r.length]
theorem start_sl {c : Ctx} {H : Hp} (r : Reps c.K G vs ds) (i : Nat) (s : Sl) (h : (start9 N ds)[i]? = some s) : SlOk c G H (L2.start N vs)[i]? s := by
  unfold start9 at h
  by_cases hi : i < ds.length
  · rw [List.getElem?_append_left (by rw [List.length_map]; exact hi), List.getElem?_map] at h
    cases e : ds[i]? with
    | none => rw [e] at h; cases h
    | some d =>
      rw [e] at h
      cases h
      obtain ⟨v, h1, h2⟩ := r.get e
      refine ⟨v, ?_, h2⟩
      unfold L2.start
      rw [List.getElem?_append_left (by rw [List.length_map, r.length]; exact hi), List.getElem?_map, h1]
      rfl
  · rw [List.getElem?_append_right (by rw [List.length_map]; omega), List.getElem?_replicate] at h
    split at h
    · cases h
      trivial
    · cases h
theorem start_noOwn {i : Nat} {xs : List Dt} : (start9 N ds)[i]? ≠ some (.own xs) := fun h => by
  unfold start9 at h
  by_cases hi : i < ds.length
  · rw [List.getElem?_append_left (by rw [List.length_map]; exact hi), List.getElem?_map] at h
    cases e : ds[i]? with
    | none => rw [e] at h; cases h
    | some d => rw [e] at h; cases h
  · rw [List.getElem?_append_right (by rw [List.length_map]; omega), List.getElem?_replicate] at h
    split at h <;> cases h
theorem env_start (e : Ex G H) (r : Reps K G vs ds) : Env ⟨K, G, H, none⟩ (L2.start N vs) G H (start9 N ds) where
  gd := ⟨e, Ex.refl G, fun a h1 h2 => ⟨h2, fun _ => rfl⟩, fun l z => by cases z⟩
  len := start_len r
  sl := fun i s h => start_sl r i s h
  own := fun i j xs ys a h => absurd h start_noOwn
end
section
variable {P : Program} {w : World} {K : PySem.W.Frag} {mg : Str → Option Value} {base : Heap}
theorem ok_D {x qual : Str} {st : Stmt} {f : Addr} {fd : FuncData} {N ps : List Str} {k : Nat} {pre : List Dt → (Dt → Prop) → Prop} (F : Fun K x qual st f fd) (S : FnScope N ps (defScope st)) (len : ∀ ds Q, pre ds Q → ds.length = ps.length)
    (hbody : ∀ (cdv : Value) (A : Around) (outer : List PySem.Env) (s : Shared) (H : Hp) (E : XK), Room k (A.deeper (envOfC qual (defScope st) s.heap.objs.size f cdv)) →
      ∃ t, PSs (cxOf CX0 P w K mg base N qual (defScope st) f cdv A outer s H E).nox (defBody st) t ∧ ∀ (G0 H0 : Hp) (ds : List Dt) (Q : Dt → Prop), pre ds Q → DS ⟨K, G0, H0, none⟩ t (start9 N ds) { nx := fun _ => Q .non, rt := fun _ => Q }) :
    FnOk P w K mg base CX0 (k + 1) f fd ps (spD K pre) :=
  F.ok S (fun vs H Q E ⟨G, ds, R, e, r, p, q⟩ => by rw [r.length]; exact len ds R p) fun cdv A outer s H vs Q E hr ⟨G, ds, R, e, r, p, q⟩ => by
    obtain ⟨t, h1, h2⟩ := hbody cdv A outer s H E hr
    refine ⟨t, h1, h2 G H ds R p (L2.start N vs) G H (env_start e r) _ (fun σ' G' H' ρ' _ I' z => ?_) (fun v d σ' G' H' ρ' I' rv z => ?_) (fun σ' G' H' ρ' _ _ z => z.elim) (fun σ' G' H' ρ' _ _ z => z.elim)⟩
    · exact q _ _ G' H' I'.gd.g0 I'.gd.gh (fun a h1 h2 => ⟨(I'.gd.fr a h1 h2).1, (I'.gd.fr a h1 h2).2 fun z => by cases z⟩) .non z
    · exact q _ _ G' H' I'.gd.g0 I'.gd.gh (fun a h1 h2 => ⟨(I'.gd.fr a h1 h2).1, (I'.gd.fr a h1 h2).2 fun z => by cases z⟩) rv z
theorem env_startH {G H : Hp} {N : List Str} {l : Addr} {us : List V} {ds : List Dt} (e : Ex G H) (ha : HandAt K G H l) (r : Reps K G us ds) : Env ⟨K, G, H, some l⟩ (L2.start N (.ref l :: us)) G H (.hand :: (ds.map .dt ++ List.replicate (N.length - (ds.length + 1)) .no)) where
  gd := ⟨e, Ex.refl G, fun a h1 h2 => ⟨h2, fun _ => rfl⟩, fun l' z => by cases z; exact ⟨ha.some, ha.1, ha⟩⟩
  len := by
    unfold L2.start
    simp only [List.length_append, List.length_map, List.length_replicate, List.length_cons, r.length]
    omega
  sl := fun i s h => by
    cases i with
    | zero => cases h; exact ⟨l, rfl, rfl⟩
    | succ i =>
      have q := start_sl (c := ⟨K, G, H, some l⟩) (H := H) (N := N.drop 1) r i s (by
        unfold start9
        rw [List.length_drop, show N.length - 1 - ds.length = N.length - (ds.length + 1) by omega]
        simpa using h)
      unfold L2.start at q ⊢
      rw [List.length_drop] at q
      rw [List.length_cons, show N.length - (us.length + 1) = N.length - 1 - us.length by omega, List.map_cons, List.cons_append, List.getElem?_cons_succ]
      exact q
  own := fun i j xs ys a h => by
    cases i with
    | zero => cases h
    | succ i =>
      exact absurd (show (start9 (N.drop 1) ds)[i]? = some (.own xs) by
        unfold start9
        rw [List.length_drop, show N.length - 1 - ds.length = N.length - (ds.length + 1) by omega]
        simpa using h) start_noOwn
theorem ok_H {x qual : Str} {st : Stmt} {f : Addr} {fd : FuncData} {N ps : List Str} {k : Nat} {pre : List Dt → (Dt → Prop) → Prop} (F : Fun K x qual st f fd) (S : FnScope N ps (defScope st)) (len : ∀ ds Q, pre ds Q → ds.length + 1 = ps.length)
    (hbody : ∀ (cdv : Value) (A : Around) (outer : List PySem.Env) (s : Shared) (H : Hp) (E : XK), Room k (A.deeper (envOfC qual (defScope st) s.heap.objs.size f cdv)) →
      ∃ t, PSs (cxOf CX0 P w K mg base N qual (defScope st) f cdv A outer s H E).nox (defBody st) t ∧ ∀ (G0 H0 : Hp) (l : Addr) (ds : List Dt) (Q : Dt → Prop), pre ds Q →
        DS ⟨K, G0, H0, some l⟩ t (.hand :: (ds.map .dt ++ List.replicate (N.length - (ds.length + 1)) .no)) { nx := fun _ => Q .non, rt := fun _ => Q }) :
    FnOk P w K mg base CX0 (k + 1) f fd ps (spH K pre) :=
  F.ok S (fun vs H Q E ⟨G, l, us, ds, R, e0, e, ha, r, p, q⟩ => by rw [e0, List.length_cons, r.length]; exact len ds R p) fun cdv A outer s H vs Q E hr ⟨G, l, us, ds, R, e0, e, ha, r, p, q⟩ => by
    subst e0
    obtain ⟨t, h1, h2⟩ := hbody cdv A outer s H E hr
    have fin : ∀ {σ' : L2.St} {G' H' : Hp} {ρ' : List Sl} {v : V} {d : Dt}, Env ⟨K, G, H, some l⟩ σ' G' H' ρ' → Rep K G' v d → R d → Q v H' := fun {σ' G' H' ρ' v d} I' rv z =>
      q _ _ G' H' I'.gd.g0 I'.gd.gh (fun a h1 h2 => ⟨(I'.gd.fr a h1 h2).1, fun hn => (I'.gd.fr a h1 h2).2 fun z => hn (by cases z; rfl)⟩) (I'.gd.hd l rfl).2.2 rv z
    exact ⟨t, h1, h2 G H l ds R p (L2.start N (.ref l :: us)) G H (env_startH e ha r) _ (fun σ' G' H' ρ' _ I' z => fin I' .non z) (fun v d σ' G' H' ρ' I' rv z => fin I' rv z) (fun σ' G' H' ρ' _ _ z => z.elim) (fun σ' G' H' ρ' _ _ z => z.elim)⟩
end
end K20
/-! Wr: built-ins by name, defs by name, for the terms that gen.py prints. -/
namespace K20
open PySem L2
open Evl (Ex)
open PyProof.Rows (envOfC)
/-- the built-in names are the built-ins still -/
structure Bi (mg : Str → Option Value) : Prop where
  len : mg "len" = none
  range : mg "range" = none
  isinstance : mg "isinstance" = none
  abs : mg "abs" = none
  int : mg "int" = none
  bool : mg "bool" = none
  list : mg "list" = none
  tuple : mg "tuple" = none
  min : mg "min" = none
  max : mg "max" = none
section
variable {X : Cx} {a b cc : PySem.Expr} {ta tb tc : TE} {p p2 p3 p4 pos : Pos}
theorem pe_len (T : Bi X.mg) (ha : PE X a ta) (hg : Gl X "len" := by rfl) (he : starEach (a :: []) X.env = (false, eval a X.env) :: starEach [] X.env := by rfl) :
    PE X (.Call (.Name "len" p) [a] [] pos) (tCB (rLenD X.K) (tCons ta tNil)) := pe_callB call_len hg T.len (by decide +kernel) (pa_cons ha pa_nil he) (by decide) (by decide) he rfl
theorem pe_abs (T : Bi X.mg) (ha : PE X a ta) (hg : Gl X "abs" := by rfl) (he : starEach (a :: []) X.env = (false, eval a X.env) :: starEach [] X.env := by rfl) :
    PE X (.Call (.Name "abs" p) [a] [] pos) (tCB rAbs (tCons ta tNil)) := pe_callB call_abs hg T.abs (by decide +kernel) (pa_cons ha pa_nil he) (by decide) (by decide) he rfl
theorem pe_int1 (T : Bi X.mg) (ha : PE X a ta) (hg : Gl X "int" := by rfl) (he : starEach (a :: []) X.env = (false, eval a X.env) :: starEach [] X.env := by rfl) :
    PE X (.Call (.Name "int" p) [a] [] pos) (tCB rInt1 (tCons ta tNil)) := pe_callTy call_int1 hg T.int (by decide +kernel) (pa_cons ha pa_nil he) (by decide) (by decide) he rfl
theorem pe_list (T : Bi X.mg) (ha : PE X a ta) (hg : Gl X "list" := by rfl) (he : starEach (a :: []) X.env = (false, eval a X.env) :: starEach [] X.env := by rfl) :
    PE X (.Call (.Name "list" p) [a] [] pos) (tCB (rListD X.K) (tCons ta tNil)) := pe_callTy call_list_of hg T.list (by decide +kernel) (pa_cons ha pa_nil he) (by decide) (by decide) he rfl
theorem pe_tuple (T : Bi X.mg) (ha : PE X a ta) (hg : Gl X "tuple" := by rfl) (he : starEach (a :: []) X.env = (false, eval a X.env) :: starEach [] X.env := by rfl) :
    PE X (.Call (.Name "tuple" p) [a] [] pos) (tCB (rTupD X.K) (tCons ta tNil)) := pe_callTy call_tuple_of hg T.tuple (by decide +kernel) (pa_cons ha pa_nil he) (by decide) (by decide) he rfl
theorem pe_min (T : Bi X.mg) (hc : X.calm = true) (ha : PE X a ta) (hb : PE X b tb) (hg : Gl X "min" := by rfl) (he : starEach (a :: [b]) X.env = (false, eval a X.env) :: starEach [b] X.env := by rfl) (he2 : starEach (b :: []) X.env = (false, eval b X.env) :: starEach [] X.env := by rfl)
    (hpl : (backTo pos (starEach [b] X.env)).any (·.1) = false := by rfl) :
    PE X (.Call (.Name "min" p) [a, b] [] pos) (tCB rMin2 (tCons ta (tCons tb tNil))) := pe_callB (call_min2 hc) hg T.min (by decide +kernel) (pa_cons ha (pa_cons hb pa_nil he2) he) (by decide) (by decide) he hpl
theorem pe_max (T : Bi X.mg) (hc : X.calm = true) (ha : PE X a ta) (hb : PE X b tb) (hg : Gl X "max" := by rfl) (he : starEach (a :: [b]) X.env = (false, eval a X.env) :: starEach [b] X.env := by rfl) (he2 : starEach (b :: []) X.env = (false, eval b X.env) :: starEach [] X.env := by rfl)
    (hpl : (backTo pos (starEach [b] X.env)).any (·.1) = false := by rfl) :
    PE X (.Call (.Name "max" p) [a, b] [] pos) (tCB rMax2 (tCons ta (tCons tb tNil))) := pe_callB (call_max2 hc) hg T.max (by decide +kernel) (pa_cons ha (pa_cons hb pa_nil he2) he) (by decide) (by decide) he hpl
/-- isinstance(a, T), T told by its term -/
theorem pe_isi (T : Bi X.mg) (ha : PE X a ta) (hb : PE X b tb) (hg : Gl X "isinstance" := by rfl) (he : starEach (a :: [b]) X.env = (false, eval a X.env) :: starEach [b] X.env := by rfl) (he2 : starEach (b :: []) X.env = (false, eval b X.env) :: starEach [] X.env := by rfl)
    (hpl : (backTo pos (starEach [b] X.env)).any (·.1) = false := by rfl) :
    PE X (.Call (.Name "isinstance" p) [a, b] [] pos) (tCB (rIsi X.K) (tCons ta (tCons tb tNil))) := pe_callB call_isi hg T.isinstance (by decide +kernel) (pa_cons ha (pa_cons hb pa_nil he2) he) (by decide) (by decide) he hpl
theorem pe_isiT (T : Bi X.mg) (ha : PE X a ta) (hb : PE X b tb) (hg : Gl X "isinstance" := by rfl) (he : starEach (a :: [b]) X.env = (false, eval a X.env) :: starEach [b] X.env := by rfl) (he2 : starEach (b :: []) X.env = (false, eval b X.env) :: starEach [] X.env := by rfl)
    (hpl : (backTo pos (starEach [b] X.env)).any (·.1) = false := by rfl) :
    PE X (.Call (.Name "isinstance" p) [a, b] [] pos) (tCB (rIsiT X.K) (tCons ta (tCons tb tNil))) := pe_callB call_isiT hg T.isinstance (by decide +kernel) (pa_cons ha (pa_cons hb pa_nil he2) he) (by decide) (by decide) he hpl
theorem pe_tyList (T : Bi X.mg) (hg : Gl X "list" := by rfl) : PE X (.Name "list" p) (tC (.ty "list")) := pe_bltn hg T.list (by decide +kernel) rfl (by decide) (by decide)
theorem pe_tyTuple (T : Bi X.mg) (hg : Gl X "tuple" := by rfl) : PE X (.Name "tuple" p) (tC (.ty "tuple")) := pe_bltn hg T.tuple (by decide +kernel) rfl (by decide) (by decide)
theorem pe_tyInt (T : Bi X.mg) (hg : Gl X "int" := by rfl) : PE X (.Name "int" p) (tC (.ty "int")) := pe_bltn hg T.int (by decide +kernel) rfl (by decide) (by decide)
theorem pe_tyBool (T : Bi X.mg) (hg : Gl X "bool" := by rfl) : PE X (.Name "bool" p) (tC (.ty "bool")) := pe_bltn hg T.bool (by decide +kernel) rfl (by decide) (by decide)
end
/-! ### defs by name -/
/-- a def of the text, behind the top -/
def Def (K : PySem.W.Frag) (mg : Str → Option Value) (x : Str) (st : Stmt) : Prop := ∃ f fd, Fun K x x st f fd ∧ mg x = some (.ref f)
/-- a def that keeps its promise, called by its name -/
def Cal (P : Program) (w : World) (K : PySem.W.Frag) (mg : Str → Option Value) (base : Heap) (x : Str) (k : Nat) (ps : List Str) (sp : Sp) : Prop :=
  ∃ f fd, FnOk P w K mg base CX0 k f fd ps sp ∧ mg x = some (.ref f) ∧ PySem.W.keepIn K (.ref f) = true ∧ Binds K fd ps []
theorem pe_cal {X : Cx} {x : Str} {j k : Nat} {ps : List Str} {sp : Sp} {p pos : Pos} {e : PySem.Expr} {es : List PySem.Expr} {t : TA} (C : Cal X.prog X.w X.K X.mg X.base x j ps sp) (hr : Room k X.A) (hj : j ≤ k) (hg : Gl X x) (ha : PA X (e :: es) t)
    (hd : (x == ("__debug__" : Str)) = false := by decide) (he : starEach (e :: es) X.env = (false, eval e X.env) :: starEach es X.env := by rfl) (hpl : (backTo pos (starEach es X.env)).any (·.1) = false := by rfl) :
    PE X (.Call (.Name x p) (e :: es) [] pos) (tCall sp [] E0 t) := by
  obtain ⟨f, fd, F, hm, hk, hb⟩ := C
  exact pe_call F (hr.mono hj) hg hm hk hb .nil pass0 ha hd he hpl
end K20
/-! Ma: bounds (a ratio or none, none the greatest), distances, the least bounds led along, clashes, the greatest hum: plain mathematics. -/
namespace K20
/-! ### bounds -/
def addB : Option Rat → Option Rat → Option Rat
  | some a, some b => some (a + b)
  | _, _ => none
def minB : Option Rat → Option Rat → Option Rat
  | none, b => b
  | a, none => a
  | some a, some b => some (if a ≤ b then a else b)
def maxB : Option Rat → Option Rat → Option Rat
  | none, b => b
  | a, none => a
  | some a, some b => some (if b < a then a else b)
def negB : Option Rat → Option Rat
  | none => none
  | some a => some (-a)
def leB : Option Rat → Option Rat → Prop
  | _, none => True
  | none, some _ => False
  | some a, some b => a ≤ b
/-- the first is above the second -/
def passB : Option Rat → Option Rat → Bool
  | _, none => false
  | none, some _ => true
  | some a, some b => decide (b < a)
theorem leB_refl : ∀ a, leB a a
  | none => trivial
  | some a => Rat.le_refl
theorem leB_trans : ∀ {a b c}, leB a b → leB b c → leB a c
  | _, _, none, _, _ => trivial
  | none, none, some _, _, h => h.elim
  | some _, none, some _, _, h => h.elim
  | none, some _, some _, h, _ => h.elim
  | some a, some b, some c, h1, h2 => Rat.le_trans (show a ≤ b from h1) (show b ≤ c from h2)
theorem leB_antisymm : ∀ {a b}, leB a b → leB b a → a = b
  | none, none, _, _ => rfl
  | some _, none, _, h => h.elim
  | none, some _, h, _ => h.elim
  | some a, some b, h1, h2 => congrArg some (Rat.le_antisymm (show a ≤ b from h1) (show b ≤ a from h2))
theorem passB_iff : ∀ a b, passB a b = false ↔ leB a b
  | none, none => by simp [passB, leB]
  | some a, none => by simp [passB, leB]
  | none, some b => by simp [passB, leB]
  | some a, some b => by simp [passB, leB, Rat.not_lt]
theorem min_left : ∀ a b, leB (minB a b) a
  | none, _ => trivial
  | some a, none => leB_refl _
  | some a, some b => by unfold minB leB; dsimp only; split <;> grind
theorem min_right : ∀ a b, leB (minB a b) b
  | _, none => trivial
  | none, some b => leB_refl _
  | some a, some b => by unfold minB leB; dsimp only; split <;> grind
theorem le_min : ∀ {a b c}, leB c a → leB c b → leB c (minB a b)
  | none, _, _, _, h => h
  | some a, none, _, h, _ => h
  | some a, some b, none, h, _ => h.elim
  | some a, some b, some c, h1, h2 => by
    unfold minB leB at *
    dsimp only at *
    split <;> grind
theorem min_or : ∀ a b, minB a b = a ∨ minB a b = b
  | none, _ => .inr rfl
  | some a, none => .inl rfl
  | some a, some b => by unfold minB; dsimp only; split; exact .inl rfl; exact .inr rfl
theorem add_comm' : ∀ a b, addB a b = addB b a
  | none, none => rfl
  | none, some _ => rfl
  | some _, none => rfl
  | some a, some b => congrArg some (Rat.add_comm a b)
theorem add_assoc' : ∀ a b c, addB (addB a b) c = addB a (addB b c)
  | none, _, _ => rfl
  | some _, none, _ => rfl
  | some _, some _, none => rfl
  | some a, some b, some c => congrArg some (Rat.add_assoc a b c)
theorem add_zero' : ∀ a, addB a (some 0) = a
  | none => rfl
  | some a => congrArg some (Rat.add_zero a)
theorem zero_add' (a : Option Rat) : addB (some 0) a = a := by rw [add_comm', add_zero']
theorem add_mono : ∀ {a b c d}, leB a b → leB c d → leB (addB a c) (addB b d)
  | _, none, _, _, _, _ => by unfold addB leB; trivial
  | _, some _, _, none, _, _ => by unfold addB leB; trivial
  | none, some _, _, some _, h, _ => h.elim
  | some _, some _, none, some _, _, h => h.elim
  | some a, some b, some c, some d, h1, h2 => by
    unfold addB leB at *
    dsimp only at *
    grind
/-- not below 0 -/
def NN (o : Option Rat) : Prop := leB (some 0) o
theorem NN.add {a b : Option Rat} (h1 : NN a) (h2 : NN b) : NN (addB a b) := by
  have := add_mono h1 h2
  rwa [zero_add'] at this
theorem le_add {a b : Option Rat} (h : NN b) : leB a (addB a b) := by
  have := add_mono (leB_refl a) h
  rwa [add_zero'] at this
/-! ### the least of a row of bounds -/
structure IsInf (S : Nat → Prop) (f : Nat → Option Rat) (v : Option Rat) : Prop where
  le : ∀ i, S i → leB v (f i)
  at_ : ∃ i, S i ∧ v = f i
theorem IsInf.uniq {S : Nat → Prop} {f : Nat → Option Rat} {v w : Option Rat} (a : IsInf S f v) (b : IsInf S f w) : v = w := by
  obtain ⟨i, h1, h2⟩ := a.at_
  obtain ⟨j, h3, h4⟩ := b.at_
  exact leB_antisymm (by rw [h4]; exact a.le j h3) (by rw [h2]; exact b.le i h1)
theorem IsInf.insert {S T : Nat → Prop} {f : Nat → Option Rat} {v : Option Rat} {j : Nat} (a : IsInf S f v) (hT : ∀ i, T i ↔ S i ∨ i = j) : IsInf T f (minB v (f j)) where
  le := fun i h => by
    rcases (hT i).mp h with h | h
    · exact leB_trans (min_left _ _) (a.le i h)
    · rw [h]
      exact min_right _ _
  at_ := by
    obtain ⟨i, h1, h2⟩ := a.at_
    rcases min_or v (f j) with h | h
    · exact ⟨i, (hT i).mpr (.inl h1), by rw [h, h2]⟩
    · exact ⟨j, (hT j).mpr (.inr rfl), h⟩
theorem IsInf.one {S : Nat → Prop} {f : Nat → Option Rat} {j : Nat} (hS : ∀ i, S i ↔ i = j) : IsInf S f (f j) :=
  ⟨fun i h => by rw [(hS i).mp h]; exact leB_refl _, j, (hS j).mpr rfl, rfl⟩
theorem IsInf.congr {S T : Nat → Prop} {f : Nat → Option Rat} {v : Option Rat} (a : IsInf S f v) (h : ∀ i, S i ↔ T i) : IsInf T f v :=
  ⟨fun i z => a.le i ((h i).mpr z), let ⟨i, h1, h2⟩ := a.at_; ⟨i, (h i).mp h1, h2⟩⟩
/-! ### distances -/
/-- the sum of d steps from i on -/
def farF (st : Nat → Option Rat) (i : Nat) : Nat → Option Rat
  | 0 => some 0
  | d + 1 => addB (farF st i d) (st (i + d))
theorem farF_left (st : Nat → Option Rat) (i d : Nat) : farF st i (d + 1) = addB (farF st (i + 1) d) (st i) := by
  induction d with
  | zero => simp [farF]
  | succ d ih =>
    rw [farF, ih, farF, add_assoc', add_assoc', add_comm' (st i), show i + 1 + d = i + (d + 1) by omega]
theorem farF_split (st : Nat → Option Rat) (i d e : Nat) : farF st i (d + e) = addB (farF st i d) (farF st (i + d) e) := by
  induction e with
  | zero => rw [Nat.add_zero, farF, add_zero']
  | succ e ih => rw [← Nat.add_assoc, farF, ih, farF, add_assoc', show i + d + e = i + (d + e) by omega]
def NNs (st : Nat → Option Rat) : Prop := ∀ k, NN (st k)
theorem far_nn {st : Nat → Option Rat} (h : NNs st) (i d : Nat) : NN (farF st i d) := by
  induction d with
  | zero => exact (Rat.le_refl : (0 : Rat) ≤ 0)
  | succ d ih => exact ih.add (h _)
/-- between two sections -/
def dist (st : Nat → Option Rat) (i j : Nat) : Option Rat := farF st (min i j) (max i j - min i j)
theorem dist_comm (st : Nat → Option Rat) (i j : Nat) : dist st i j = dist st j i := by
  unfold dist
  rw [Nat.min_comm, Nat.max_comm]
theorem dist_le {st : Nat → Option Rat} {i j : Nat} (h : i ≤ j) : dist st i j = farF st i (j - i) := by
  unfold dist
  rw [Nat.min_eq_left h, Nat.max_eq_right h]
theorem dist_self (st : Nat → Option Rat) (i : Nat) : dist st i i = some 0 := by
  rw [dist_le (Nat.le_refl i), Nat.sub_self]
  rfl
theorem dist_nn {st : Nat → Option Rat} (h : NNs st) (i j : Nat) : NN (dist st i j) := far_nn h _ _
theorem dist_add {st : Nat → Option Rat} {i j k : Nat} (h1 : i ≤ j) (h2 : j ≤ k) : dist st i k = addB (dist st i j) (dist st j k) := by
  rw [dist_le (Nat.le_trans h1 h2), dist_le h1, dist_le h2, show k - i = (j - i) + (k - j) by omega, farF_split, show i + (j - i) = j by omega]
theorem dist_tri {st : Nat → Option Rat} (h : NNs st) (i j k : Nat) : leB (dist st i k) (addB (dist st i j) (dist st j k)) := by
  have nn := dist_nn h
  have key : ∀ a b c, a ≤ b → b ≤ c → leB (dist st a c) (addB (dist st a b) (dist st b c)) ∧ leB (dist st a b) (addB (dist st a c) (dist st c b)) ∧ leB (dist st b c) (addB (dist st b a) (dist st a c)) := by
    intro a b c h1 h2
    have e := dist_add (st := st) h1 h2
    refine ⟨by rw [e]; exact leB_refl _, ?_, ?_⟩
    · rw [e, add_assoc']
      exact le_add ((nn b c).add (nn c b))
    · rw [e, ← add_assoc', add_comm']
      exact le_add ((nn b a).add (nn a b))
  rcases Nat.le_total i j with a | a <;> rcases Nat.le_total j k with b | b <;> rcases Nat.le_total i k with c | c
  · exact (key i j k a b).1
  · have := (key k i j c a).2.2
    have e : k = i := by omega
    subst e
    exact (key k j k a b).1
  · exact (key i k j c b).2.1
  · have := (key k i j c a).2.2
    rw [dist_comm st k j, dist_comm st i k, add_comm'] at this
    rw [dist_comm st i k, add_comm']
    rw [dist_comm st i j, dist_comm st j k]
    have q := key k i j c a
    have e := dist_add (st := st) c a
    rw [dist_comm st k j] at e
    rw [dist_comm st k j, e, add_assoc']
    exact le_add ((nn i j).add (by rw [dist_comm]; exact nn i j))
  · have q := key j i k a c
    have e := dist_add (st := st) a c
    rw [e, ← add_assoc', add_comm']
    exact le_add ((nn i j).add (nn j i))
  · have q := (key j k i b c).2.2
    rw [dist_comm st k i] at q
    rw [add_comm', dist_comm st i j, dist_comm st j k]
    rw [dist_comm st j i] at *
    have e := dist_add (st := st) b c
    rw [dist_comm st i j, e, dist_comm st i k, ← add_assoc', add_comm']
    exact le_add ((nn k j).add (nn j k))
  · have e : i = k := by omega
    subst e
    rw [dist_self]
    exact (nn i j).add (nn j i)
  · have e := dist_add (st := st) b a
    rw [dist_comm st i k, dist_comm st i j, dist_comm st j k, e, add_comm']
    exact leB_refl _
theorem dist_step (st : Nat → Option Rat) (k : Nat) : dist st k (k + 1) = st k := by
  rw [dist_le (by omega), show k + 1 - k = 1 by omega]
  simp [farF, zero_add']
/-! ### a row led along -/
def fwdF (s st : Nat → Option Rat) : Nat → Option Rat
  | 0 => s 0
  | k + 1 => minB (s (k + 1)) (addB (fwdF s st k) (st k))
/-- from the end n - 1 back: the m-th from there -/
def bwdF (n : Nat) (s st : Nat → Option Rat) : Nat → Option Rat
  | 0 => fwdF s st (n - 1)
  | m + 1 => minB (fwdF s st (n - 1 - (m + 1))) (addB (bwdF n s st m) (st (n - 1 - (m + 1))))
def ledF (n : Nat) (s st : Nat → Option Rat) (k : Nat) : Option Rat := bwdF n s st (n - 1 - k)
def reachOf (s st : Nat → Option Rat) (k i : Nat) : Option Rat := addB (s i) (dist st i k)
theorem fwd_at (s st : Nat → Option Rat) : ∀ k, ∃ i, i ≤ k ∧ fwdF s st k = reachOf s st k i
  | 0 => ⟨0, Nat.le_refl _, by unfold reachOf; rw [dist_self, add_zero']; rfl⟩
  | k + 1 => by
    obtain ⟨i, h1, h2⟩ := fwd_at s st k
    rcases min_or (s (k + 1)) (addB (fwdF s st k) (st k)) with h | h
    · exact ⟨k + 1, Nat.le_refl _, by unfold reachOf; rw [dist_self, add_zero', fwdF, h]⟩
    · refine ⟨i, by omega, ?_⟩
      unfold reachOf at h2 ⊢
      rw [fwdF, h, h2, add_assoc', dist_add (i := i) (j := k) (k := k + 1) h1 (by omega), dist_step]
theorem fwd_le (s st : Nat → Option Rat) (k : Nat) : leB (fwdF s st k) (s k) := by
  cases k with
  | zero => exact leB_refl _
  | succ k => exact min_left _ _
theorem fwd_step (s st : Nat → Option Rat) (k : Nat) : leB (fwdF s st (k + 1)) (addB (fwdF s st k) (st k)) := min_right _ _
theorem led_last {n : Nat} (s st : Nat → Option Rat) {k : Nat} (h : k + 1 = n) : ledF n s st k = fwdF s st k := by
  unfold ledF
  rw [show n - 1 - k = 0 by omega, bwdF, show n - 1 = k by omega]
theorem led_eq {n : Nat} (s st : Nat → Option Rat) {k : Nat} (h : k + 1 < n) : ledF n s st k = minB (fwdF s st k) (addB (ledF n s st (k + 1)) (st k)) := by
  unfold ledF
  rw [show n - 1 - k = (n - 1 - (k + 1)) + 1 by omega, bwdF, show n - 1 - (n - 1 - (k + 1) + 1) = k by omega]
theorem led_fwd {n : Nat} (s st : Nat → Option Rat) {k : Nat} (h : k < n) : leB (ledF n s st k) (fwdF s st k) := by
  by_cases h1 : k + 1 < n
  · rw [led_eq s st h1]
    exact min_left _ _
  · rw [led_last s st (by omega)]
    exact leB_refl _
theorem led_le {n : Nat} (s st : Nat → Option Rat) {k : Nat} (h : k < n) : leB (ledF n s st k) (s k) := leB_trans (led_fwd s st h) (fwd_le s st k)
theorem led_down {n : Nat} (s st : Nat → Option Rat) {k : Nat} (h : k + 1 < n) : leB (ledF n s st k) (addB (ledF n s st (k + 1)) (st k)) := by
  rw [led_eq s st h]
  exact min_right _ _
theorem led_up {n : Nat} {s st : Nat → Option Rat} (nn : NNs st) {k : Nat} (h : k + 1 < n) : leB (ledF n s st (k + 1)) (addB (ledF n s st k) (st k)) := by
  rw [led_eq s st h]
  rcases min_or (fwdF s st k) (addB (ledF n s st (k + 1)) (st k)) with e | e
  · rw [e]
    exact leB_trans (led_fwd s st h) (fwd_step s st k)
  · rw [e, add_assoc']
    exact le_add ((nn k).add (nn k))
theorem led_at0 {n : Nat} (s st : Nat → Option Rat) (m : Nat) : ∀ k, k + 1 + m = n → ∃ j, k ≤ j ∧ j < n ∧ ledF n s st k = addB (fwdF s st j) (dist st j k) := by
  induction m with
  | zero => intro k h; exact ⟨k, Nat.le_refl _, by omega, by rw [dist_self, add_zero', led_last s st h]⟩
  | succ m ih =>
    intro k h
    obtain ⟨j, h1, h2, h3⟩ := ih (k + 1) (by omega)
    rw [led_eq s st (by omega)]
    rcases min_or (fwdF s st k) (addB (ledF n s st (k + 1)) (st k)) with e | e
    · exact ⟨k, Nat.le_refl _, by omega, by rw [dist_self, add_zero', e]⟩
    · refine ⟨j, by omega, h2, ?_⟩
      rw [e, h3, add_assoc', dist_comm st j k, dist_add (st := st) (i := k) (j := k + 1) (k := j) (by omega) h1, dist_step, add_comm' (st k), dist_comm st j (k + 1)]
theorem led_reach {n : Nat} {s st : Nat → Option Rat} (nn : NNs st) {k : Nat} (hk : k < n) : ∀ i, i < n → leB (ledF n s st k) (reachOf s st k i) := by
  have up : ∀ d i, i + d < n → leB (ledF n s st (i + d)) (addB (ledF n s st i) (farF st i d)) := by
    intro d
    induction d with
    | zero => intro i h; rw [farF, add_zero']; exact leB_refl _
    | succ d ih =>
      intro i h
      rw [farF, ← add_assoc']
      exact leB_trans (led_up nn (show (i + d) + 1 < n by omega)) (add_mono (ih i (by omega)) (leB_refl _))
  have dn : ∀ d i, i + d < n → leB (ledF n s st i) (addB (ledF n s st (i + d)) (farF st i d)) := by
    intro d
    induction d with
    | zero => intro i h; rw [farF, add_zero']; exact leB_refl _
    | succ d ih =>
      intro i h
      refine leB_trans (ih i (by omega)) ?_
      rw [farF, add_comm' (farF st i d), ← add_assoc']
      exact add_mono (led_down s st (show (i + d) + 1 < n by omega)) (leB_refl _)
  intro i hi
  unfold reachOf
  rcases Nat.le_total i k with h | h
  · refine leB_trans ?_ (add_mono (led_le s st hi) (leB_refl _))
    have := up (k - i) i (by omega)
    rwa [show i + (k - i) = k by omega, ← dist_le h] at this
  · refine leB_trans ?_ (add_mono (led_le s st hi) (leB_refl _))
    have := dn (i - k) k (by omega)
    rw [show k + (i - k) = i by omega, ← dist_le h] at this
    rw [dist_comm]
    exact this
theorem led_inf {n : Nat} {s st : Nat → Option Rat} (nn : NNs st) {k : Nat} (hk : k < n) : IsInf (· < n) (reachOf s st k) (ledF n s st k) := by
  refine ⟨led_reach nn hk, ?_⟩
  obtain ⟨j, h1, h2, h3⟩ := led_at0 (n := n) s st (n - (k + 1)) k (by omega)
  obtain ⟨i, h4, h5⟩ := fwd_at s st j
  refine ⟨i, by omega, leB_antisymm (led_reach nn hk i (by omega)) ?_⟩
  rw [h3, h5]
  unfold reachOf
  rw [add_assoc']
  exact add_mono (leB_refl _) (dist_tri nn i j k)
/-- led twice over is led once -/
theorem led_lip {n : Nat} {s st : Nat → Option Rat} (nn : NNs st) {i k : Nat} (hi : i < n) (hk : k < n) : leB (ledF n s st k) (addB (ledF n s st i) (dist st i k)) := by
  obtain ⟨j, h1, h2⟩ := (led_inf nn hi (s := s)).at_
  rw [h2]
  refine leB_trans (led_reach nn hk j h1) ?_
  unfold reachOf
  rw [add_assoc']
  exact add_mono (leB_refl _) (dist_tri nn j i k)
theorem led_nn {n : Nat} {s st : Nat → Option Rat} (nn : NNs st) (ns : ∀ k, k < n → NN (s k)) {k : Nat} (hk : k < n) : NN (ledF n s st k) := by
  obtain ⟨j, h1, h2⟩ := (led_inf nn hk (s := s)).at_
  rw [h2]
  exact (ns j h1).add (dist_nn nn j k)
/-! ### known values -/
def absR (q : Rat) : Rat := if q < 0 then -q else q
def KnSt (n : Nat) (ks : List (Nat × Rat)) : Prop := ks.Pairwise (fun p q => p.1 < q.1) ∧ ∀ p ∈ ks, p.1 < n
def valF (ks : List (Nat × Rat)) (k : Nat) : Option Rat := (ks.find? fun p => p.1 == k).map (·.2)
structure NoClash (n : Nat) (m st : Nat → Option Rat) (ks : List (Nat × Rat)) : Prop where
  self : ∀ p ∈ ks, leB (some (absR p.2)) (ledF n m st p.1)
  two : ks.Pairwise fun p q => leB (some (absR (p.2 - q.2))) (dist st p.1 q.1)
def pairsF (st : Nat → Option Rat) : List (Nat × Rat) → Option (Nat × Nat)
  | [] => none
  | p :: r => match r.find? (fun q => passB (some (absR (p.2 - q.2))) (dist st p.1 q.1)) with
    | some q => some (p.1, q.1)
    | none => pairsF st r
def clashF (n : Nat) (m st : Nat → Option Rat) (ks : List (Nat × Rat)) : Option (Nat × Nat) :=
  match ks.find? (fun p => passB (some (absR p.2)) (ledF n m st p.1)) with
  | some p => some (p.1, p.1)
  | none => pairsF st ks
theorem pairs_none (st : Nat → Option Rat) : ∀ ks, pairsF st ks = none → ks.Pairwise fun p q => leB (some (absR (p.2 - q.2))) (dist st p.1 q.1)
  | [], _ => .nil
  | p :: r, h => by
    unfold pairsF at h
    split at h
    · cases h
    · rename_i e
      refine .cons (fun q hq => ?_) (pairs_none st r h)
      have := List.find?_eq_none.mp e q hq
      exact (passB_iff _ _).mp (by simpa using this)
theorem clash_none {n : Nat} {m st : Nat → Option Rat} {ks : List (Nat × Rat)} (h : clashF n m st ks = none) : NoClash n m st ks := by
  unfold clashF at h
  split at h
  · cases h
  · rename_i e
    refine ⟨fun p hp => ?_, pairs_none st ks h⟩
    have := List.find?_eq_none.mp e p hp
    exact (passB_iff _ _).mp (by simpa using this)
theorem absR_nn (q : Rat) : 0 ≤ absR q := by unfold absR; split <;> grind
theorem absR_le {q b : Rat} : absR q ≤ b ↔ -b ≤ q ∧ q ≤ b := by unfold absR; split <;> grind
theorem absR_sub (p q : Rat) : absR (p - q) = absR (q - p) := by unfold absR; split <;> split <;> grind
theorem NoClash.both {n : Nat} {m st : Nat → Option Rat} {ks : List (Nat × Rat)} (c : NoClash n m st ks) {p q : Nat × Rat} (hp : p ∈ ks) (hq : q ∈ ks) (h : p ≠ q) : leB (some (absR (p.2 - q.2))) (dist st p.1 q.1) := by
  have key : ∀ l : List (Nat × Rat), l.Pairwise (fun p q => leB (some (absR (p.2 - q.2))) (dist st p.1 q.1)) → p ∈ l → q ∈ l → leB (some (absR (p.2 - q.2))) (dist st p.1 q.1) := by
    intro l
    induction l with
    | nil => intro _ h; cases h
    | cons a l ih =>
      intro hp h1 h2
      cases hp with
      | cons ha hl =>
        rcases List.mem_cons.mp h1 with e1 | h1
        · rcases List.mem_cons.mp h2 with e2 | h2
          · exact absurd (e1.trans e2.symm) h
          · rw [e1]; exact ha q h2
        · rcases List.mem_cons.mp h2 with e2 | h2
          · rw [e2, absR_sub, dist_comm]; exact ha p h1
          · exact ih hl h1 h2
  exact key ks c.two hp hq
theorem val_mem {n : Nat} {ks : List (Nat × Rat)} {k : Nat} {v : Rat} (h : valF ks k = some v) : (k, v) ∈ ks := by
  unfold valF at h
  cases e : ks.find? fun p => p.1 == k with
  | none => rw [e] at h; cases h
  | some p =>
    rw [e] at h
    have h1 := List.find?_some e
    have h2 := List.mem_of_find?_eq_some e
    have : p = (k, v) := by
      cases p
      simp only [Option.map_some, Option.some.injEq] at h
      simp only [beq_iff_eq] at h1
      rw [h1, h]
    rwa [← this]
theorem kn_inj {n : Nat} {ks : List (Nat × Rat)} (h : KnSt n ks) {k : Nat} {v w : Rat} (h1 : (k, v) ∈ ks) (h2 : (k, w) ∈ ks) : v = w := by
  have key : ∀ l : List (Nat × Rat), l.Pairwise (fun p q => p.1 < q.1) → (k, v) ∈ l → (k, w) ∈ l → v = w := by
    intro l
    induction l with
    | nil => intro _ h; cases h
    | cons a l ih =>
      intro hp h1 h2
      cases hp with
      | cons ha hl =>
        rcases List.mem_cons.mp h1 with e1 | h1
        · rcases List.mem_cons.mp h2 with e2 | h2
          · have := e1.trans e2.symm
            exact congrArg Prod.snd this
          · have := ha _ h2
            rw [← e1] at this
            exact absurd this (Nat.lt_irrefl k)
        · rcases List.mem_cons.mp h2 with e2 | h2
          · have := ha _ h1
            rw [← e2] at this
            exact absurd this (Nat.lt_irrefl k)
          · exact ih hl h1 h2
  exact key ks h.1 h1 h2
theorem mem_val {n : Nat} {ks : List (Nat × Rat)} (h : KnSt n ks) {k : Nat} {v : Rat} (h1 : (k, v) ∈ ks) : valF ks k = some v := by
  cases e : valF ks k with
  | none =>
    unfold valF at e
    rw [Option.map_eq_none_iff, List.find?_eq_none] at e
    exact absurd (show ((k, v).1 == k) = true by simp) (e _ h1)
  | some w => rw [kn_inj h (val_mem (n := n) e) h1]
/-! ### the greatest hum -/
def dueB (n : Nat) (m st : Nat → Option Rat) (ks : List (Nat × Rat)) (k : Nat) : Option Rat := ks.foldl (fun b p => minB b (addB (some p.2) (dist st p.1 k))) (ledF n m st k)
def dueF (n : Nat) (m st : Nat → Option Rat) (ks : List (Nat × Rat)) (k : Nat) : Rat := (dueB n m st ks k).getD 0
def startF (n : Nat) (m st : Nat → Option Rat) (ks : List (Nat × Rat)) (k : Nat) : Option Rat := match valF ks k with | some v => some v | none => ledF n m st k
theorem foldl_min (f : Nat × Rat → Option Rat) : ∀ (ks : List (Nat × Rat)) (b : Option Rat),
    leB (ks.foldl (fun b p => minB b (f p)) b) b ∧ (∀ p ∈ ks, leB (ks.foldl (fun b p => minB b (f p)) b) (f p)) ∧ (ks.foldl (fun b p => minB b (f p)) b = b ∨ ∃ p ∈ ks, ks.foldl (fun b p => minB b (f p)) b = f p)
  | [], b => ⟨leB_refl b, ⟨fun p h => absurd h (by simp), Or.inl rfl⟩⟩
  | p :: ks, b => by
    obtain ⟨h1, h2, h3⟩ := foldl_min f ks (minB b (f p))
    refine ⟨leB_trans h1 (min_left _ _), fun q hq => ?_, ?_⟩
    · rcases List.mem_cons.mp hq with e | hq
      · rw [e]; exact leB_trans h1 (min_right _ _)
      · exact h2 q hq
    · rcases h3 with h3 | ⟨q, hq, h3⟩
      · rcases min_or b (f p) with e | e
        · exact .inl (h3.trans e)
        · exact .inr ⟨p, List.mem_cons_self .., h3.trans e⟩
      · exact .inr ⟨q, List.mem_cons_of_mem _ hq, h3⟩
section
variable {n : Nat} {m st : Nat → Option Rat} {ks : List (Nat × Rat)}
theorem due_tight (k : Nat) : leB (dueB n m st ks k) (ledF n m st k) := (foldl_min _ ks _).1
theorem due_val (k : Nat) {p : Nat × Rat} (h : p ∈ ks) : leB (dueB n m st ks k) (addB (some p.2) (dist st p.1 k)) := (foldl_min (fun p => addB (some p.2) (dist st p.1 k)) ks _).2.1 p h
theorem due_or (k : Nat) : dueB n m st ks k = ledF n m st k ∨ ∃ p ∈ ks, dueB n m st ks k = addB (some p.2) (dist st p.1 k) := (foldl_min (fun p => addB (some p.2) (dist st p.1 k)) ks _).2.2
/-- what the program reckons is what the values and tightened mosts lay on it -/
theorem start_due (nn : NNs st) (kn : KnSt n ks) (c : NoClash n m st ks) {k : Nat} (hk : k < n) : ledF n (startF n m st ks) st k = dueB n m st ks k := by
  have inf := led_inf nn hk (s := startF n m st ks)
  have sk : ∀ j, j < n → leB (startF n m st ks j) (ledF n m st j) := by
    intro j hj
    unfold startF
    cases e : valF ks j with
    | none => exact leB_refl _
    | some v =>
      refine leB_trans ?_ (c.self _ (val_mem (n := n) e))
      exact (absR_le.mp (Rat.le_refl : absR v ≤ absR v)).2
  refine leB_antisymm ?_ ?_
  · rcases due_or (n := n) (m := m) (st := st) (ks := ks) k with h | ⟨p, hp, h⟩
    · rw [h]
      exact leB_trans (led_le _ _ hk) (sk k hk)
    · rw [h]
      have := inf.le p.1 (kn.2 p hp)
      unfold reachOf startF at this
      rwa [mem_val kn (show (p.1, p.2) ∈ ks from hp)] at this
  · obtain ⟨j, hj, h⟩ := inf.at_
    rw [h]
    unfold reachOf startF
    cases e : valF ks j with
    | none =>
      exact leB_trans (due_tight k) (led_lip nn hj hk)
    | some v => exact due_val k (val_mem (n := n) e)
/-! ### hums -/
structure Within (n : Nat) (m st : Nat → Option Rat) (h : Nat → Rat) : Prop where
  most : ∀ k, k < n → leB (some (absR (h k))) (m k)
  step : ∀ k, k + 1 < n → leB (some (absR (h (k + 1) - h k))) (st k)
def Keeps (ks : List (Nat × Rat)) (h : Nat → Rat) : Prop := ∀ p ∈ ks, h p.1 = p.2
theorem due_some {k : Nat} {b : Rat} (h : dueB n m st ks k = some b) : dueF n m st ks k = b := by unfold dueF; rw [h]; rfl
theorem due_none {k : Nat} (h : dueB n m st ks k = none) : dueF n m st ks k = 0 := by unfold dueF; rw [h]; rfl
theorem due_lip (nn : NNs st) {i k : Nat} (hi : i < n) (hk : k < n) : leB (dueB n m st ks k) (addB (dueB n m st ks i) (dist st i k)) := by
  rcases due_or (n := n) (m := m) (st := st) (ks := ks) i with h | ⟨p, hp, h⟩
  · rw [h]
    exact leB_trans (due_tight k) (led_lip nn hi hk)
  · rw [h, add_assoc']
    exact leB_trans (due_val k hp) (add_mono (leB_refl _) (dist_tri nn p.1 i k))
/-- the lower end: minus the tightened most -/
theorem due_low (nn : NNs st) (nm : ∀ k, k < n → NN (m k)) (kn : KnSt n ks) (c : NoClash n m st ks) {k : Nat} (hk : k < n) {t b : Rat} (ht : ledF n m st k = some t) (hb : dueB n m st ks k = some b) : -t ≤ b := by
  rcases due_or (n := n) (m := m) (st := st) (ks := ks) k with h | ⟨p, hp, h⟩
  · rw [hb, ht] at h
    have := led_nn nn nm hk
    rw [ht] at this
    have h0 : (0 : Rat) ≤ t := this
    cases h
    grind
  · rw [hb] at h
    cases ed : dist st p.1 k with
    | none => rw [ed] at h; cases h
    | some d =>
      rw [ed] at h
      cases h
      have h1 := c.self p hp
      have h2 := led_lip nn (s := m) hk (kn.2 p hp)
      rw [ht, dist_comm, ed] at h2
      have h3 : absR p.2 ≤ t + d := leB_trans h1 h2
      have h4 := absR_le.mp h3
      grind
theorem due_within (nn : NNs st) (nm : ∀ k, k < n → NN (m k)) (kn : KnSt n ks) (c : NoClash n m st ks) : Within n m st (dueF n m st ks) where
  most := fun k hk => by
    cases em : m k with
    | none => trivial
    | some M =>
      have h1 := led_le m st hk
      rw [em] at h1
      cases et : ledF n m st k with
      | none => rw [et] at h1; exact h1.elim
      | some t =>
        rw [et] at h1
        have h1' : t ≤ M := h1
        have h2 := due_tight (n := n) (m := m) (st := st) (ks := ks) k
        rw [et] at h2
        cases eb : dueB n m st ks k with
        | none => rw [eb] at h2; exact h2.elim
        | some b =>
          rw [eb] at h2
          have h2' : b ≤ t := h2
          rw [due_some eb]
          have := due_low nn nm kn c hk et eb
          exact absR_le.mpr ⟨by grind, by grind⟩
  step := fun k hk => by
    cases es : st k with
    | none => trivial
    | some S =>
      have h1 := due_lip nn (m := m) (ks := ks) (show k < n by omega) hk
      have h2 := due_lip nn (m := m) (ks := ks) hk (show k < n by omega)
      rw [dist_step, es] at h1
      rw [dist_comm, dist_step, es] at h2
      have nS := nn k
      rw [es] at nS
      have nS' : (0 : Rat) ≤ S := nS
      cases e1 : dueB n m st ks (k + 1) with
      | none =>
        rw [e1] at h1
        cases e0 : dueB n m st ks k with
        | none =>
          rw [due_none e1, due_none e0]
          exact absR_le.mpr ⟨by grind, by grind⟩
        | some a => rw [e0] at h1; exact h1.elim
      | some b =>
        cases e0 : dueB n m st ks k with
        | none => rw [e0, e1] at h2; exact h2.elim
        | some a =>
          rw [e0, e1] at h1 h2
          have h1' : b ≤ a + S := h1
          have h2' : a ≤ b + S := h2
          rw [due_some e1, due_some e0]
          exact absR_le.mpr ⟨by grind, by grind⟩
theorem due_keeps (nn : NNs st) (kn : KnSt n ks) (c : NoClash n m st ks) : Keeps ks (dueF n m st ks) := fun p hp => by
  have hk := kn.2 p hp
  have h1 := due_val (n := n) (m := m) (st := st) p.1 hp
  rw [dist_self, add_zero'] at h1
  have h2 : leB (some p.2) (dueB n m st ks p.1) := by
    rcases due_or (n := n) (m := m) (st := st) (ks := ks) p.1 with h | ⟨q, hq, h⟩
    · rw [h]
      exact leB_trans (show leB (some p.2) (some (absR p.2)) from (absR_le.mp (Rat.le_refl : absR p.2 ≤ absR p.2)).2) (c.self p hp)
    · rw [h]
      by_cases e : p = q
      · rw [e, dist_self, add_zero']
        exact leB_refl _
      · have := c.both hp hq e
        rw [dist_comm] at this
        cases ed : dist st q.1 p.1 with
        | none => trivial
        | some d =>
          rw [ed] at this
          have h3 := absR_le.mp (show absR (p.2 - q.2) ≤ d from this)
          show p.2 ≤ q.2 + d
          grind
  have h3 := leB_antisymm h1 h2
  exact due_some h3
/-- a place is bounded: a most or a known value in its part -/
theorem due_bounded (nn : NNs st) (kn : KnSt n ks) {k i : Nat} (hk : k < n) (hi : i < n) (h1 : dist st i k ≠ none) (h2 : m i ≠ none ∨ valF ks i ≠ none) : dueB n m st ks k ≠ none := fun e => by
  have key : ∀ {x : Option Rat}, x ≠ none → ¬ leB none (addB x (dist st i k)) := by
    intro x hx h
    cases x with
    | none => exact hx rfl
    | some a =>
      cases ed : dist st i k with
      | none => exact h1 ed
      | some d => rw [ed] at h; exact h
  rcases h2 with h2 | h2
  · have q := leB_trans (due_tight (n := n) (m := m) (st := st) (ks := ks) k) (led_reach nn hk i hi)
    rw [e] at q
    exact key h2 q
  · cases ev : valF ks i with
    | none => exact h2 ev
    | some v =>
      have q := due_val (n := n) (m := m) (st := st) k (val_mem (n := n) ev)
      rw [e] at q
      exact key (x := some v) (by simp) q
end
end K20
/-! Nu: how great the numbers grow: q is a whole number of 1 / D, of size at most c * 2 ^ 40. -/
namespace K20
def BIG : Rat := 1099511627776
theorem BIG_pos : 0 < BIG := by unfold BIG; decide
theorem BIG_eq : BIG = ((1099511627776 : Nat) : Rat) := by unfold BIG; rfl
/-- numbers small enough for * and // -/
def Sm (q : Rat) : Prop := q.num.natAbs < 2 ^ 1000 ∧ q.den < 2 ^ 1000
structure Ni (D c : Nat) (q : Rat) : Prop where
  at_ : ∃ a : Int, q * (D : Rat) = (a : Rat)
  lo : -((c : Rat) * BIG) ≤ q
  hi : q ≤ (c : Rat) * BIG
theorem cB_mono {c d : Nat} (h : c ≤ d) : (c : Rat) * BIG ≤ (d : Rat) * BIG := Rat.mul_le_mul_of_nonneg_right (Rat.natCast_le_natCast.mpr h) (Rat.le_of_lt BIG_pos)
theorem cB_add (c d : Nat) : ((c + d : Nat) : Rat) * BIG = (c : Rat) * BIG + (d : Rat) * BIG := by rw [Rat.natCast_add]; grind
theorem Ni.mono {D c d : Nat} {q : Rat} (h : Ni D c q) (hc : c ≤ d) : Ni D d q := by
  have := cB_mono hc
  exact ⟨h.at_, by have := h.lo; grind, by have := h.hi; grind⟩
theorem Ni.lift {D E c : Nat} {q : Rat} (h : Ni D c q) (hd : D ∣ E) : Ni E c q := by
  obtain ⟨f, rfl⟩ := hd
  obtain ⟨a, e⟩ := h.at_
  exact ⟨⟨a * f, by rw [Rat.natCast_mul, Rat.intCast_mul, ← e, Rat.intCast_natCast]; grind⟩, h.lo, h.hi⟩
theorem Ni.add {D c d : Nat} {p q : Rat} (h : Ni D c p) (k : Ni D d q) : Ni D (c + d) (p + q) := by
  obtain ⟨a, e⟩ := h.at_
  obtain ⟨b, f⟩ := k.at_
  have h1 := h.lo
  have h2 := h.hi
  have h3 := k.lo
  have h4 := k.hi
  refine ⟨⟨a + b, by rw [Rat.intCast_add, ← e, ← f]; grind⟩, ?_, ?_⟩ <;> rw [cB_add] <;> grind
theorem Ni.neg {D c : Nat} {p : Rat} (h : Ni D c p) : Ni D c (-p) := by
  obtain ⟨a, e⟩ := h.at_
  have h1 := h.lo
  have h2 := h.hi
  exact ⟨⟨-a, by rw [Rat.intCast_neg, ← e]; grind⟩, by grind, by grind⟩
theorem Ni.sub {D c d : Nat} {p q : Rat} (h : Ni D c p) (k : Ni D d q) : Ni D (c + d) (p - q) := by
  rw [Rat.sub_eq_add_neg]
  exact h.add k.neg
theorem Ni.abs {D c : Nat} {p : Rat} (h : Ni D c p) : Ni D c (absR p) := by
  unfold absR
  split
  · exact h.neg
  · exact h
theorem Ni.zero (D c : Nat) : Ni D c 0 := by
  have h := cB_mono (Nat.zero_le c)
  have e : ((0 : Nat) : Rat) * BIG = 0 := by rw [show ((0 : Nat) : Rat) = 0 from rfl]; grind
  rw [e] at h
  exact ⟨⟨0, by rw [Rat.zero_mul]; rfl⟩, by grind, h⟩
theorem Ni.sm {D c : Nat} {q : Rat} (h : Ni D c q) (hD : 0 < D) (hD2 : D < 2 ^ 900) (hc : c ≤ 1000000) : Sm q := by
  obtain ⟨a, e⟩ := h.at_
  have hDr : (0 : Rat) < (D : Rat) := Rat.natCast_pos.mpr hD
  have hD0 : (D : Rat) ≠ 0 := fun z => by rw [z] at hDr; exact Rat.lt_irrefl hDr
  have e2 : q = mkRat a D := by
    rw [Rat.mkRat_eq_div, ← Rat.intCast_natCast]
    rw [Rat.intCast_natCast, ← e]
    rw [Rat.mul_div_cancel hD0]
  have up : (a : Rat) ≤ ((c * 1099511627776 * D : Nat) : Rat) := by
    rw [Rat.natCast_mul, Rat.natCast_mul, ← BIG_eq, ← e]
    exact Rat.mul_le_mul_of_nonneg_right h.hi (Rat.le_of_lt hDr)
  have dn : ((-(c * 1099511627776 * D : Nat) : Int) : Rat) ≤ (a : Rat) := by
    rw [Rat.intCast_neg, Rat.intCast_natCast, Rat.natCast_mul, Rat.natCast_mul, ← BIG_eq, ← e]
    have := Rat.mul_le_mul_of_nonneg_right h.lo (Rat.le_of_lt hDr)
    rw [Rat.neg_mul] at this
    exact this
  have up2 : a ≤ ((c * 1099511627776 * D : Nat) : Int) := by
    rw [← Rat.intCast_natCast] at up
    exact Rat.intCast_le_intCast.mp up
  have dn2 : -((c * 1099511627776 * D : Nat) : Int) ≤ a := Rat.intCast_le_intCast.mp dn
  have hb : c * 1099511627776 * D < 2 ^ 1000 := by
    have h1 : c * 1099511627776 ≤ 2 ^ 60 := Nat.le_trans (Nat.mul_le_mul_right _ hc) (by decide)
    have h2 : c * 1099511627776 * D ≤ 2 ^ 60 * D := Nat.mul_le_mul_right _ h1
    have h3 : 2 ^ 60 * D ≤ 2 ^ 60 * 2 ^ 900 := Nat.mul_le_mul_left _ (Nat.le_of_lt hD2)
    have h4 : (2 : Nat) ^ 60 * 2 ^ 900 < 2 ^ 1000 := by rw [← Nat.pow_add]; exact Nat.pow_lt_pow_right (by decide) (by decide)
    omega
  have ha : a.natAbs < 2 ^ 1000 := Nat.lt_of_le_of_lt (by omega) hb
  rw [e2]
  constructor
  · rw [Rat.num_mkRat, if_neg (by omega)]
    refine Nat.lt_of_le_of_lt ?_ ha
    rw [Int.natAbs_ediv_of_dvd (Int.ofNat_dvd_left.mpr (Nat.gcd_dvd_right D a.natAbs))]
    exact Nat.div_le_self _ _
  · rw [Rat.den_mkRat, if_neg (by omega)]
    exact Nat.lt_of_le_of_lt (Nat.div_le_self _ _) (Nat.lt_trans hD2 (Nat.pow_lt_pow_right (by decide) (by decide)))
/-- bounds -/
def NiB (D c : Nat) (o : Option Rat) : Prop := ∀ q, o = some q → Ni D c q
theorem NiB.none (D c : Nat) : NiB D c none := fun q h => by cases h
theorem NiB.some {D c : Nat} {q : Rat} (h : Ni D c q) : NiB D c (some q) := fun p e => by cases e; exact h
theorem NiB.mono {D c d : Nat} {o : Option Rat} (h : NiB D c o) (hc : c ≤ d) : NiB D d o := fun q e => (h q e).mono hc
theorem NiB.lift {D E c : Nat} {o : Option Rat} (h : NiB D c o) (hd : D ∣ E) : NiB E c o := fun q e => (h q e).lift hd
theorem NiB.add {D c d : Nat} {a b : Option Rat} (h : NiB D c a) (k : NiB D d b) : NiB D (c + d) (addB a b) := fun q e => by
  cases a with
  | none => cases e
  | some x =>
    cases b with
    | none => cases e
    | some y => cases e; exact (h x rfl).add (k y rfl)
theorem NiB.min {D c d : Nat} {a b : Option Rat} (h : NiB D c a) (k : NiB D d b) : NiB D (Nat.max c d) (minB a b) := by
  rcases min_or a b with e | e
  · rw [e]; exact h.mono (Nat.le_max_left _ _)
  · rw [e]; exact k.mono (Nat.le_max_right _ _)
theorem NiB.neg {D c : Nat} {a : Option Rat} (h : NiB D c a) : NiB D c (negB a) := fun q e => by
  cases a with
  | none => cases e
  | some x => cases e; exact (h x rfl).neg
/-- a row of bounds -/
def NiF (D c : Nat) (f : Nat → Option Rat) : Prop := ∀ k, NiB D c (f k)
theorem NiF.far {D c : Nat} {st : Nat → Option Rat} (h : NiF D c st) (i d : Nat) : NiB D (d * c) (farF st i d) := by
  induction d with
  | zero => exact NiB.some (Ni.zero _ _)
  | succ d ih => rw [farF, Nat.succ_mul]; exact ih.add (h _)
theorem NiF.dist {D c n : Nat} {st : Nat → Option Rat} (h : NiF D c st) {i j : Nat} (hi : i < n) (hj : j < n) : NiB D (n * c) (K20.dist st i j) := by
  show NiB D _ (farF st _ _)
  exact (h.far _ _).mono (Nat.mul_le_mul_right _ (by omega))
theorem NiF.fwd {D c d : Nat} {s st : Nat → Option Rat} (hs : NiF D d s) (h : NiF D c st) (k : Nat) : NiB D (d + k * c) (fwdF s st k) := by
  induction k with
  | zero => rw [fwdF, Nat.zero_mul]; exact hs 0
  | succ k ih =>
    rw [fwdF]
    refine ((hs _).min (ih.add (h k))).mono ?_
    rw [Nat.succ_mul]
    exact Nat.max_le.mpr ⟨by omega, by omega⟩
theorem NiF.led {D c d n : Nat} {s st : Nat → Option Rat} (hs : NiF D d s) (h : NiF D c st) (nn : NNs st) {k : Nat} (hk : k < n) : NiB D (d + n * c) (ledF n s st k) := by
  obtain ⟨i, h1, h2⟩ := (led_inf nn hk (s := s)).at_
  rw [h2]
  exact (hs i).add (h.dist h1 hk)
end K20
/-! Kp: a hum drawn entry by entry between two ends stays allowed. -/
namespace K20
theorem foldl_minG {α : Type} (f : α → Option Rat) : ∀ (ks : List α) (b : Option Rat),
    leB (ks.foldl (fun b p => minB b (f p)) b) b ∧ (∀ p ∈ ks, leB (ks.foldl (fun b p => minB b (f p)) b) (f p)) ∧ (ks.foldl (fun b p => minB b (f p)) b = b ∨ ∃ p ∈ ks, ks.foldl (fun b p => minB b (f p)) b = f p)
  | [], b => ⟨leB_refl b, ⟨fun p h => absurd h (by simp), Or.inl rfl⟩⟩
  | p :: ks, b => by
    obtain ⟨h1, h2, h3⟩ := foldl_minG f ks (minB b (f p))
    refine ⟨leB_trans h1 (min_left _ _), fun q hq => ?_, ?_⟩
    · rcases List.mem_cons.mp hq with e | hq
      · rw [e]; exact leB_trans h1 (min_right _ _)
      · exact h2 q hq
    · rcases h3 with h3 | ⟨q, hq, h3⟩
      · rcases min_or b (f p) with e | e
        · exact .inl (h3.trans e)
        · exact .inr ⟨p, List.mem_cons_self .., h3.trans e⟩
      · exact .inr ⟨q, List.mem_cons_of_mem _ hq, h3⟩
/-- |x - centre| at most radius -/
abbrev Con := Rat × Option Rat
def hiC (L : List Con) : Option Rat := L.foldl (fun b c => minB b (addB (some c.1) c.2)) none
def loC (L : List Con) : Option Rat := L.foldl (fun b c => maxB b (addB (some c.1) (negB c.2))) none
theorem neg_neg' : ∀ a, negB (negB a) = a
  | none => rfl
  | some a => congrArg some (by grind)
theorem max_neg : ∀ a b, maxB a b = negB (minB (negB a) (negB b))
  | none, none => rfl
  | none, some b => congrArg some (by grind)
  | some a, none => congrArg some (by grind)
  | some a, some b => by
    unfold maxB minB negB
    dsimp only
    congr 1
    split <;> split <;> grind
theorem negB_add : ∀ (a : Rat) (b : Option Rat), negB (addB (some a) (negB b)) = addB (some (-a)) b
  | a, none => rfl
  | a, some b => congrArg some (by show -(a + -b) = -a + b; grind)
def flipC (c : Con) : Con := (-c.1, c.2)
theorem lo_hi (L : List Con) : loC L = negB (hiC (L.map flipC)) := by
  have key : ∀ (L : List Con) (b : Option Rat), L.foldl (fun b c => maxB b (addB (some c.1) (negB c.2))) b = negB ((L.map flipC).foldl (fun b c => minB b (addB (some c.1) c.2)) (negB b)) := by
    intro L
    induction L with
    | nil => intro b; exact (neg_neg' b).symm
    | cons c L ih =>
      intro b
      rw [List.foldl_cons, ih, List.map_cons, List.foldl_cons, max_neg, neg_neg', negB_add]
      rfl
  exact key L none
theorem hi_le {L : List Con} {c : Con} (h : c ∈ L) : leB (hiC L) (addB (some c.1) c.2) := (foldl_minG (fun c : Con => addB (some c.1) c.2) L none).2.1 c h
theorem hi_at (L : List Con) : hiC L = none ∨ ∃ c ∈ L, hiC L = addB (some c.1) c.2 := (foldl_minG (fun c : Con => addB (some c.1) c.2) L none).2.2
theorem hi_none {L : List Con} (h : hiC L = none) {c : Con} (hc : c ∈ L) : c.2 = none := by
  have := hi_le hc
  rw [h] at this
  cases e : c.2 with
  | none => rfl
  | some r => rw [e] at this; exact this.elim
theorem hi_none_of {L : List Con} (h : ∀ c ∈ L, c.2 = none) : hiC L = none := by
  rcases hi_at L with e | ⟨c, hc, e⟩
  · exact e
  · rw [e, h c hc]
    rfl
theorem lo_none_iff (L : List Con) : loC L = none ↔ hiC L = none := by
  rw [lo_hi]
  constructor
  · intro h
    have h2 : hiC (L.map flipC) = none := by
      cases e : hiC (L.map flipC) with
      | none => rfl
      | some a => rw [e] at h; cases h
    exact hi_none_of fun c hc => hi_none (c := flipC c) h2 (List.mem_map_of_mem hc)
  · intro h
    rw [hi_none_of (L := L.map flipC) fun c hc => ?_]
    · rfl
    · obtain ⟨d, hd, rfl⟩ := List.mem_map.mp hc
      exact hi_none (c := d) h hd
def Comp (L : List Con) : Prop := ∀ a ∈ L, ∀ b ∈ L, leB (some (a.1 - b.1)) (addB a.2 b.2)
theorem lo_le {L : List Con} {c : Con} (h : c ∈ L) {a r : Rat} (e : loC L = some a) (er : c.2 = some r) : c.1 - r ≤ a := by
  rw [lo_hi] at e
  have := hi_le (L := L.map flipC) (c := flipC c) (List.mem_map_of_mem h)
  cases e2 : hiC (L.map flipC) with
  | none => rw [e2] at e; cases e
  | some x =>
    rw [e2] at e this
    cases e
    rw [show (flipC c).2 = some r from er] at this
    have h2 : x ≤ -c.1 + r := this
    grind
theorem lo_at {L : List Con} {a : Rat} (e : loC L = some a) : ∃ c ∈ L, ∃ r, c.2 = some r ∧ a = c.1 - r := by
  rw [lo_hi] at e
  rcases hi_at (L.map flipC) with e2 | ⟨c, hc, e2⟩
  · rw [e2] at e; cases e
  · obtain ⟨d, hd, rfl⟩ := List.mem_map.mp hc
    rw [e2] at e
    cases er : d.2 with
    | none =>
      rw [show (flipC d).2 = none from er] at e
      cases e
    | some r =>
      rw [show (flipC d).2 = some r from er] at e
      cases e
      exact ⟨d, hd, r, er, by show -(-d.1 + r) = d.1 - r; grind⟩
theorem hi_at' {L : List Con} {a : Rat} (e : hiC L = some a) : ∃ c ∈ L, ∃ r, c.2 = some r ∧ a = c.1 + r := by
  rcases hi_at L with e2 | ⟨c, hc, e2⟩
  · rw [e2] at e; cases e
  · rw [e2] at e
    cases er : c.2 with
    | none => rw [er] at e; cases e
    | some r =>
      rw [er] at e
      cases e
      exact ⟨c, hc, r, er, rfl⟩
theorem itv_le {L : List Con} (h : Comp L) {a b : Rat} (ea : loC L = some a) (eb : hiC L = some b) : a ≤ b := by
  obtain ⟨c, hc, r, er, rfl⟩ := lo_at ea
  obtain ⟨d, hd, t, et, rfl⟩ := hi_at' eb
  have := h c hc d hd
  rw [er, et] at this
  have h2 : c.1 - d.1 ≤ r + t := this
  grind
theorem itv_in {L : List Con} {x : Rat} (h1 : ∀ a, loC L = some a → a ≤ x) (h2 : ∀ b, hiC L = some b → x ≤ b) {c : Con} (hc : c ∈ L) : leB (some (absR (x - c.1))) c.2 := by
  cases er : c.2 with
  | none => trivial
  | some r =>
    cases eb : hiC L with
    | none => have := hi_none eb hc; rw [er] at this; cases this
    | some b =>
      cases ea : loC L with
      | none => rw [(lo_none_iff L).mp ea] at eb; cases eb
      | some a =>
        have k1 := h1 a ea
        have k2 := h2 b eb
        have k3 := lo_le hc ea er
        have k4 := hi_le hc
        rw [eb, er] at k4
        have k5 : b ≤ c.1 + r := k4
        exact absR_le.mpr ⟨by grind, by grind⟩
theorem hi_app (L : List Con) (c : Con) : hiC (L ++ [c]) = minB (hiC L) (addB (some c.1) c.2) := by
  unfold hiC
  rw [List.foldl_append]
  rfl
theorem lo_app (L : List Con) (c : Con) : loC (L ++ [c]) = maxB (loC L) (addB (some c.1) (negB c.2)) := by
  unfold loC
  rw [List.foldl_append]
  rfl
theorem hi_ni {D c : Nat} {L : List Con} (h : ∀ x ∈ L, NiB D c (addB (some x.1) x.2)) : NiB D c (hiC L) := by
  rcases hi_at L with e | ⟨x, hx, e⟩
  · rw [e]; exact NiB.none _ _
  · rw [e]; exact h x hx
theorem lo_ni {D c : Nat} {L : List Con} (h : ∀ x ∈ L, NiB D c (addB (some x.1) (negB x.2))) : NiB D c (loC L) := fun q e => by
  obtain ⟨x, hx, r, er, rfl⟩ := lo_at e
  have := h x hx
  rw [er] at this
  have := this _ rfl
  rwa [Rat.sub_eq_add_neg]
/-! ### a row as far as it is drawn -/
section
variable {n : Nat} {m st : Nat → Option Rat} {ks : List (Nat × Rat)} {h : Nat → Rat}
def At (n : Nat) (m st : Nat → Option Rat) (ks : List (Nat × Rat)) (i : Nat) (x : Rat) : Prop :=
  leB (some (absR x)) (ledF n m st i) ∧ ∀ p ∈ ks, i ≤ p.1 → leB (some (absR (x - p.2))) (dist st i p.1)
structure RowOk (n : Nat) (m st : Nat → Option Rat) (ks : List (Nat × Rat)) (h : Nat → Rat) (k : Nat) : Prop where
  at_ : ∀ i, i < k → At n m st ks i (h i)
  step : ∀ i, i + 1 < k → leB (some (absR (h (i + 1) - h i))) (st i)
/-- what is laid on the entry k: its tightened most, the entry ahead, the known values from here on -/
def consOf (n : Nat) (m st : Nat → Option Rat) (ks : List (Nat × Rat)) (h : Nat → Rat) (k : Nat) : List Con :=
  (0, ledF n m st k) :: ((if 0 < k then [(h (k - 1), st (k - 1))] else []) ++ (ks.filter fun p => k ≤ p.1).map fun p => (p.2, dist st k p.1))
theorem absR_zero : absR 0 = 0 := by unfold absR; split <;> grind
theorem sub_le {x : Rat} {o : Option Rat} (h : leB (some (absR x)) o) : leB (some x) o := leB_trans (show leB (some x) (some (absR x)) from (absR_le.mp (Rat.le_refl : absR x ≤ absR x)).2) h
theorem cons_comp (nn : NNs st) (nm : ∀ k, k < n → NN (m k)) (kn : KnSt n ks) (c : NoClash n m st ks) {k : Nat} (hk : k < n) (r : RowOk n m st ks h k) : Comp (consOf n m st ks h k) := by
  have tn : NN (ledF n m st k) := led_nn nn nm hk
  have zero : ∀ {a : Rat} {o : Option Rat}, NN o → leB (some (a - a)) (addB o o) := fun {a o} z => by
    rw [Rat.sub_self]
    exact z.add z
  -- the tightened most against a centre x at distance d of radius r
  have tx : ∀ p ∈ ks, k ≤ p.1 → leB (some (absR p.2)) (addB (ledF n m st k) (dist st k p.1)) := fun p hp _ => leB_trans (c.self p hp) (led_lip nn hk (kn.2 p hp))
  have th : 0 < k → leB (some (absR (h (k - 1)))) (addB (ledF n m st k) (st (k - 1))) := fun h0 => by
    refine leB_trans (r.at_ (k - 1) (by omega)).1 ?_
    have := led_lip nn (s := m) hk (show k - 1 < n by omega)
    rw [dist_comm] at this
    have e := dist_step st (k - 1)
    rw [show k - 1 + 1 = k by omega] at e
    rwa [e] at this
  have hv : 0 < k → ∀ p ∈ ks, k ≤ p.1 → leB (some (absR (h (k - 1) - p.2))) (addB (st (k - 1)) (dist st k p.1)) := fun h0 p hp hkp => by
    refine leB_trans ((r.at_ (k - 1) (by omega)).2 p hp (by omega)) ?_
    have e := dist_step st (k - 1)
    rw [show k - 1 + 1 = k by omega] at e
    rw [dist_add (st := st) (i := k - 1) (j := k) (k := p.1) (by omega) hkp, e]
    exact leB_refl _
  have vv : ∀ p ∈ ks, ∀ q ∈ ks, leB (some (absR (p.2 - q.2))) (addB (dist st k p.1) (dist st k q.1)) := fun p hp q hq => by
    by_cases e : p = q
    · rw [e, Rat.sub_self, absR_zero]
      exact (dist_nn nn _ _).add (dist_nn nn _ _)
    · refine leB_trans (c.both hp hq e) ?_
      have := dist_tri nn p.1 k q.1
      rwa [dist_comm st p.1 k] at this
  -- the three kinds
  have mem : ∀ a ∈ consOf n m st ks h k, a = (0, ledF n m st k) ∨ (0 < k ∧ a = (h (k - 1), st (k - 1))) ∨ ∃ p ∈ ks, k ≤ p.1 ∧ a = (p.2, dist st k p.1) := fun a ha => by
    unfold consOf at ha
    rcases List.mem_cons.mp ha with e | ha
    · exact .inl e
    · rcases List.mem_append.mp ha with ha | ha
      · split at ha
        · rename_i h0
          exact .inr (.inl ⟨h0, by simpa using ha⟩)
        · cases ha
      · obtain ⟨p, hp, e⟩ := List.mem_map.mp ha
        obtain ⟨h1, h2⟩ := List.mem_filter.mp hp
        exact .inr (.inr ⟨p, h1, by simpa using h2, e.symm⟩)
  intro a ha b hb
  rcases mem a ha with rfl | ⟨h0, rfl⟩ | ⟨p, hp, hkp, rfl⟩ <;> rcases mem b hb with rfl | ⟨h0', rfl⟩ | ⟨q, hq, hkq, rfl⟩
  · exact zero tn
  · refine sub_le ?_
    rw [absR_sub]
    have := th h0'
    rwa [show h (k - 1) - 0 = h (k - 1) by grind]
  · refine sub_le ?_
    rw [absR_sub]
    have := tx q hq hkq
    rwa [show q.2 - 0 = q.2 by grind]
  · refine sub_le ?_
    have := th h0
    rw [add_comm'] at this
    rwa [show h (k - 1) - 0 = h (k - 1) by grind]
  · exact zero (nn _)
  · exact sub_le (hv h0 q hq hkq)
  · refine sub_le ?_
    have := tx p hp hkp
    rw [add_comm'] at this
    rwa [show p.2 - 0 = p.2 by grind]
  · refine sub_le ?_
    rw [absR_sub, add_comm']
    exact hv h0' p hp hkp
  · exact sub_le (vv p hp q hq)
theorem row_next {x : Rat} {k : Nat} (r : RowOk n m st ks h k) (h1 : ∀ a, loC (consOf n m st ks h k) = some a → a ≤ x) (h2 : ∀ b, hiC (consOf n m st ks h k) = some b → x ≤ b) : RowOk n m st ks (fun i => if i = k then x else h i) (k + 1) := by
  have q : ∀ c ∈ consOf n m st ks h k, leB (some (absR (x - c.1))) c.2 := fun c hc => itv_in h1 h2 hc
  refine ⟨fun i hi => ?_, fun i hi => ?_⟩
  · by_cases e : i = k
    · subst e
      rw [if_pos rfl]
      refine ⟨?_, fun p hp hkp => ?_⟩
      · have := q (0, ledF n m st i) (by unfold consOf; exact List.mem_cons_self ..)
        rwa [show x - (0, ledF n m st i).1 = x by show x - 0 = x; grind] at this
      · exact q (p.2, dist st i p.1) (by
          unfold consOf
          refine List.mem_cons_of_mem _ (List.mem_append_right _ ?_)
          exact List.mem_map.mpr ⟨p, List.mem_filter.mpr ⟨hp, by simpa using hkp⟩, rfl⟩)
    · rw [if_neg e]
      exact r.at_ i (by omega)
  · by_cases e : i + 1 = k
    · rw [if_pos e, if_neg (by omega)]
      have := q (h (k - 1), st (k - 1)) (by
        unfold consOf
        refine List.mem_cons_of_mem _ (List.mem_append_left _ ?_)
        rw [if_pos (by omega)]
        exact List.mem_singleton.mpr rfl)
      rw [show k - 1 = i by omega] at this
      exact this
    · rw [if_neg e, if_neg (by omega)]
      exact r.step i (by omega)
theorem row_within (r : RowOk n m st ks h n) : Within n m st h :=
  ⟨fun k hk => leB_trans (r.at_ k hk).1 (led_le m st hk), r.step⟩
theorem row_keeps (kn : KnSt n ks) (r : RowOk n m st ks h n) : Keeps ks h := fun p hp => by
  have := (r.at_ p.1 (kn.2 p hp)).2 p hp (Nat.le_refl _)
  rw [dist_self] at this
  have h2 : absR (h p.1 - p.2) ≤ 0 := this
  have h3 := absR_le.mp h2
  grind
theorem hum_lip (w : Within n m st h) {i : Nat} : ∀ d, i + d < n → leB (some (absR (h (i + d) - h i))) (farF st i d) := by
  intro d
  induction d with
  | zero =>
    intro _
    rw [Nat.add_zero, Rat.sub_self, absR_zero]
    exact leB_refl _
  | succ d ih =>
    intro hd
    have h1 := ih (by omega)
    have h2 := w.step (i + d) (by omega)
    rw [farF]
    refine leB_trans ?_ (add_mono h1 h2)
    show absR (h (i + (d + 1)) - h i) ≤ absR (h (i + d) - h i) + absR (h (i + d + 1) - h (i + d))
    rw [show i + (d + 1) = i + d + 1 by omega]
    have a := absR_le.mp (Rat.le_refl : absR (h (i + d) - h i) ≤ absR (h (i + d) - h i))
    have b := absR_le.mp (Rat.le_refl : absR (h (i + d + 1) - h (i + d)) ≤ absR (h (i + d + 1) - h (i + d)))
    exact absR_le.mpr ⟨by grind, by grind⟩
theorem hum_lip2 (w : Within n m st h) {i j : Nat} (hi : i < n) (hj : j < n) : leB (some (absR (h j - h i))) (dist st i j) := by
  rcases Nat.le_total i j with a | a
  · rw [dist_le a]
    have := hum_lip w (i := i) (j - i) (by omega)
    rwa [show i + (j - i) = j by omega] at this
  · rw [dist_comm, dist_le a, absR_sub]
    have := hum_lip w (i := j) (i - j) (by omega)
    rwa [show j + (i - j) = i by omega] at this
/-- no allowed hum is greater anywhere where a bound is -/
theorem hum_due (kn : KnSt n ks) (nn : NNs st) (w : Within n m st h) (kp : Keeps ks h) {k : Nat} (hk : k < n) : leB (some (h k)) (dueB n m st ks k) := by
  rcases due_or (n := n) (m := m) (st := st) (ks := ks) k with e | ⟨p, hp, e⟩
  · rw [e]
    obtain ⟨i, hi, e2⟩ := (led_inf nn hk (s := m)).at_
    rw [e2]
    unfold reachOf
    refine leB_trans ?_ (add_mono (w.most i hi) (hum_lip2 w hi hk))
    show h k ≤ absR (h i) + absR (h k - h i)
    have a := absR_le.mp (Rat.le_refl : absR (h i) ≤ absR (h i))
    have b := absR_le.mp (Rat.le_refl : absR (h k - h i) ≤ absR (h k - h i))
    grind
  · rw [e]
    have := hum_lip2 w (kn.2 p hp) hk
    rw [kp p hp] at this
    refine leB_trans ?_ (add_mono (leB_refl (some p.2)) this)
    show h k ≤ p.2 + absR (h k - p.2)
    have b := absR_le.mp (Rat.le_refl : absR (h k - p.2) ≤ absR (h k - p.2))
    grind
theorem noClash_nil : NoClash n m st [] := ⟨fun p h => absurd h (by simp), List.Pairwise.nil⟩
theorem knSt_nil : KnSt n [] := ⟨List.Pairwise.nil, fun p h => absurd h (by simp)⟩
end
end K20
/-! Tx: the text by places, ratios and bounds as data. -/
namespace K20
open PySem L2
open Evl (Ex)
open PyProof.Rows (envOfC)
def top (i : Nat) : Stmt := PySem.Challenge.pw_hushedwires_k20_whole_hums_through_known.main.body.getD i (.Pass ⟨0, 0, 0, 0⟩)
/-! ### ratios, bounds, rows -/
abbrev rat (q : Rat) : Dt := .tup [.int q.num, .int q.den]
def bd : Option Rat → Dt
  | none => .non
  | some q => rat q
def tab (n : Nat) (f : Nat → Option Rat) : List Dt := (List.range n).map fun k => bd (f k)
theorem tab_len (n : Nat) (f : Nat → Option Rat) : (tab n f).length = n := by unfold tab; rw [List.length_map, List.length_range]
theorem tab_get {n k : Nat} (f : Nat → Option Rat) (h : k < n) : (tab n f)[k]? = some (bd (f k)) := by
  unfold tab
  rw [List.getElem?_map, List.getElem?_range h]
  rfl
theorem tab_none {n k : Nat} (f : Nat → Option Rat) (h : n ≤ k) : (tab n f)[k]? = none := List.getElem?_eq_none (by rw [tab_len]; exact h)
theorem tab_at {n k : Nat} {i : Int} (f : Nat → Option Rat) (h : k < n) (e : i = (k : Int)) : atI (tab n f) i = some (bd (f k)) := by
  rw [e]
  exact atI_nat (tab_get f h)
theorem tab_congr {n : Nat} {f g : Nat → Option Rat} (h : ∀ k, k < n → f k = g k) : tab n f = tab n g := by
  unfold tab
  refine List.map_congr_left fun k hk => ?_
  rw [h k (List.mem_range.mp hk)]
theorem tab_set {n : Nat} (f : Nat → Option Rat) (i : Nat) (v : Option Rat) : (tab n f).set i (bd v) = tab n fun k => if k = i then v else f k := by
  refine List.ext_getElem? fun k => ?_
  by_cases hk : k < n
  · rw [tab_get _ hk, List.getElem?_set]
    by_cases e : i = k
    · subst e
      rw [if_pos rfl, if_pos (by rw [tab_len]; exact hk), if_pos rfl]
    · rw [if_neg e, tab_get _ hk, if_neg (fun z => e z.symm)]
  · rw [tab_none _ (by omega), List.getElem?_eq_none (by rw [List.length_set, tab_len]; omega)]
theorem tab_succ (n : Nat) (f : Nat → Option Rat) : tab (n + 1) f = tab n f ++ [bd (f n)] := by
  unfold tab
  rw [List.range_succ, List.map_append]
  rfl
theorem tab_last {n : Nat} (f : Nat → Option Rat) (h : 0 < n) : atI (tab n f) (-1) = some (bd (f (n - 1))) := by
  obtain ⟨k, rfl⟩ : ∃ k, n = k + 1 := ⟨n - 1, by omega⟩
  rw [tab_succ]
  exact atI_last _ _
theorem tab_empty {n : Nat} (f : Nat → Option Rat) (h : 0 < n) : (tab n f).isEmpty = false := by
  obtain ⟨k, rfl⟩ : ∃ k, n = k + 1 := ⟨n - 1, by omega⟩
  rw [tab_succ]
  simp
theorem sIx_some (n d : Nat) {i : Nat} : HT.sIx n d (some (i : Int)) = min i n := HT.sIx_nat n d i
theorem tab_cut {n : Nat} (f : Nat → Option Rat) {i j : Nat} (h : i ≤ j) (hj : j ≤ n) : cutD (tab n f) (some (i : Int)) (some (j : Int)) = tab (j - i) fun k => f (i + k) := by
  unfold cutD
  rw [sIx_some, sIx_some, tab_len, Nat.min_eq_left hj, Nat.min_eq_left (Nat.le_trans h hj)]
  refine List.ext_getElem? fun k => ?_
  by_cases hk : k < j - i
  · rw [tab_get _ hk, List.getElem?_take_of_lt hk, List.getElem?_drop, tab_get _ (by omega)]
  · rw [tab_none _ (by omega), List.getElem?_eq_none]
    rw [List.length_take]
    omega
def lim (n : Nat) (m st : Nat → Option Rat) : Dt := .tup [.tup (tab n m), .tup (tab (n - 1) st)]
def limO (CL : Addr) (n : Nat) (m st : Nat → Option Rat) : Dt := .ob CL ["mosts", "steps"] [.tup (tab n m), .tup (tab (n - 1) st)]
def kn1 (p : Nat × Rat) : Dt := .tup [.int p.1, rat p.2]
def kn (ks : List (Nat × Rat)) : Dt := .tup (ks.map kn1)
/-! ### plain data -/
theorem sh_rat (n : Nat) (q : Rat) : sh (n + 1) (rat q) = true := by simp [rat, sh, shAll]
theorem sh_bd (n : Nat) (o : Option Rat) : sh (n + 1) (bd o) = true := by
  cases o with
  | none => simp [bd, sh]
  | some q => exact sh_rat n q
theorem sh_tab (n N : Nat) (f : Nat → Option Rat) : shAll (n + 1) (tab N f) = true := shAll_of fun x hx => by
  obtain ⟨k, _, rfl⟩ := List.mem_map.mp hx
  exact sh_bd n _
theorem shD_int (i : Int) : shD (.int i) := ⟨0, by decide, by simp [sh]⟩
theorem shD_non : shD .non := ⟨0, by decide, by simp [sh]⟩
theorem shD_rat (q : Rat) : shD (rat q) := ⟨1, by decide, sh_rat 0 q⟩
theorem shD_tupTab (N : Nat) (f : Nat → Option Rat) : shD (.tup (tab N f)) := ⟨2, by decide, by rw [sh]; exact sh_tab 0 N f⟩
theorem isNon_bd (o : Option Rat) : isNon (bd o) = o.isNone := by cases o <;> rfl
mutual
theorem sh_mono : ∀ {n m : Nat} {d : Dt}, n ≤ m → sh n d = true → sh m d = true
  | _, _, .non, _, _ => by simp [sh]
  | _, _, .bl _, _, _ => by simp [sh]
  | _, _, .int _, _, _ => by simp [sh]
  | _, _, .str x, _, h => by rw [sh] at h ⊢; exact h
  | 0, _, .lst _, _, h => by simp [sh] at h
  | 0, _, .tup _, _, h => by simp [sh] at h
  | n + 1, 0, _, h, _ => by omega
  | n + 1, m + 1, .lst xs, h, s => by
    rw [sh] at s ⊢
    exact shAll_mono (Nat.le_of_succ_le_succ h) s
  | n + 1, m + 1, .tup xs, h, s => by
    rw [sh] at s ⊢
    exact shAll_mono (Nat.le_of_succ_le_succ h) s
  | _, _, .ob _ _ _, _, h => by simp [sh] at h
  | _, _, .scr _, _, h => by simp [sh] at h
theorem shAll_mono : ∀ {n m : Nat} {xs : List Dt}, n ≤ m → shAll n xs = true → shAll m xs = true
  | _, _, [], _, _ => by simp [shAll]
  | n, m, x :: xs, h, s => by
    rw [shAll, Bool.and_eq_true] at s ⊢
    exact ⟨sh_mono h s.1, shAll_mono h s.2⟩
end
theorem shD_mem {n : Nat} {xs : List Dt} {x : Dt} (h : shAll n xs = true) (hx : x ∈ xs) : sh n x = true := by
  induction xs with
  | nil => cases hx
  | cons y ys ih =>
    rw [shAll, Bool.and_eq_true] at h
    rcases List.mem_cons.mp hx with e | hx
    · rw [e]; exact h.1
    · exact ih h.2 hx
theorem shD_tup_mem {xs : List Dt} {x : Dt} (h : shD (.tup xs)) (hx : x ∈ xs) : shD x := by
  obtain ⟨n, hn, s⟩ := h
  cases n with
  | zero => simp [sh] at s
  | succ n =>
    rw [sh] at s
    exact ⟨n, by omega, shD_mem s hx⟩
theorem shD_lst_mem {xs : List Dt} {x : Dt} (h : shD (.lst xs)) (hx : x ∈ xs) : shD x := by
  obtain ⟨n, hn, s⟩ := h
  cases n with
  | zero => simp [sh] at s
  | succ n =>
    rw [sh] at s
    exact ⟨n, by omega, shD_mem s hx⟩
theorem shD_lt {xs : List Dt} : shD (.lst xs) ↔ shD (.tup xs) := by
  constructor <;> (rintro ⟨n, hn, s⟩; refine ⟨n, hn, ?_⟩; cases n with | zero => simp [sh] at s | succ n => simpa [sh] using s)
/-! ### isinstance of plain data -/
def isBl : Dt → Bool
  | .bl _ => true
  | _ => false
def isIn : Dt → Bool
  | .bl _ => true
  | .int _ => true
  | _ => false
def isTu : Dt → Bool
  | .tup _ => true
  | _ => false
def isLT : Dt → Bool
  | .tup _ => true
  | .lst _ => true
  | _ => false
section
variable {c : Ctx} {ta : TE} {ρ : List Sl} {P : Dt → Prop}
theorem plain_ty {K : PySem.W.Frag} {f : Dt → Bool} {d : Dt} (h : shD d) {T : String} (b1 : kitB "NoneType" T = some (f .non)) (b2 : kitB "bool" T = some (f (.bl true))) (b3 : kitB "int" T = some (f (.int 0))) (b4 : kitB "str" T = some (f (.str ""))) (b5 : kitB "list" T = some (f (.lst []))) (b6 : kitB "tuple" T = some (f (.tup [])))
    (e : ∀ b x i s, f (.bl b) = f (.bl true) ∧ f (.int i) = f (.int 0) ∧ f (.str s) = f (.str "") ∧ f (.lst x) = f (.lst []) ∧ f (.tup x) = f (.tup [])) : ∃ t b, TyD K d t ∧ PySem.W.kitOne K t (.type T) = some b ∧ b = f d := by
  obtain ⟨n, hn, s⟩ := h
  cases d with
  | non => exact ⟨_, _, .non, kit_ty b1, rfl⟩
  | bl b => exact ⟨_, _, .bl b, kit_ty b2, ((e b [] 0 "").1).symm⟩
  | int i => exact ⟨_, _, .int i, kit_ty b3, ((e true [] i "").2.1).symm⟩
  | str x => exact ⟨_, _, .str x, kit_ty b4, ((e true [] 0 x).2.2.1).symm⟩
  | lst xs => exact ⟨_, _, .lst xs, kit_ty b5, ((e true xs 0 "").2.2.2.1).symm⟩
  | tup xs => exact ⟨_, _, .tup xs, kit_ty b6, ((e true xs 0 "").2.2.2.2).symm⟩
  | ob _ _ _ => simp [sh] at s
  | scr _ => simp [sh] at s
theorem de_isBl (h : DE c ta ρ fun d => shD d ∧ P (.bl (isBl d))) : DE c (tCB (rIsi c.K) (tCons ta (tCons (tC (.ty "bool")) tNil))) ρ P := de_isi (.ty "bool") (h.imp fun d q => by
  obtain ⟨t, b, h1, h2, h3⟩ := plain_ty (K := c.K) (f := isBl) q.1 (T := "bool") (by decide +kernel) (by decide +kernel) (by decide +kernel) (by decide +kernel) (by decide +kernel) (by decide +kernel) (fun _ _ _ _ => ⟨rfl, rfl, rfl, rfl, rfl⟩)
  exact ⟨t, b, h1, h2, by rw [h3]; exact q.2⟩)
theorem de_isIn (h : DE c ta ρ fun d => shD d ∧ P (.bl (isIn d))) : DE c (tCB (rIsi c.K) (tCons ta (tCons (tC (.ty "int")) tNil))) ρ P := de_isi (.ty "int") (h.imp fun d q => by
  obtain ⟨t, b, h1, h2, h3⟩ := plain_ty (K := c.K) (f := isIn) q.1 (T := "int") (by decide +kernel) (by decide +kernel) (by decide +kernel) (by decide +kernel) (by decide +kernel) (by decide +kernel) (fun _ _ _ _ => ⟨rfl, rfl, rfl, rfl, rfl⟩)
  exact ⟨t, b, h1, h2, by rw [h3]; exact q.2⟩)
theorem de_isTu (h : DE c ta ρ fun d => shD d ∧ P (.bl (isTu d))) : DE c (tCB (rIsi c.K) (tCons ta (tCons (tC (.ty "tuple")) tNil))) ρ P := de_isi (.ty "tuple") (h.imp fun d q => by
  obtain ⟨t, b, h1, h2, h3⟩ := plain_ty (K := c.K) (f := isTu) q.1 (T := "tuple") (by decide +kernel) (by decide +kernel) (by decide +kernel) (by decide +kernel) (by decide +kernel) (by decide +kernel) (fun _ _ _ _ => ⟨rfl, rfl, rfl, rfl, rfl⟩)
  exact ⟨t, b, h1, h2, by rw [h3]; exact q.2⟩)
theorem de_isLT (h : DE c ta ρ fun d => shD d ∧ P (.bl (isLT d))) : DE c (tCB (rIsiT c.K) (tCons ta (tCons (tTup (tCons (tC (.ty "list")) (tCons (tC (.ty "tuple")) tNil))) tNil))) ρ P := de_isiT (h.imp fun d q => by
  obtain ⟨⟨n, hn, s⟩, q⟩ := q
  have any : ∀ {t : String} {x y : Bool}, kitB t "list" = some x → kitB t "tuple" = some y → PySem.W.kitAny c.K (.type t) [.type "list", .type "tuple"] = some (x || y) := fun {t x y} a b =>
    kitAny_cons (kit_ty a) (fun z => by rw [z, Bool.false_or]; exact kitAny_cons (kit_ty b) (fun z => by rw [z]; exact kitAny_nil) fun z => z) fun z => by rw [z]; rfl
  cases d with
  | non => exact ⟨_, _, .non, any (x := false) (y := false) (by decide +kernel) (by decide +kernel), q⟩
  | bl b => exact ⟨_, _, .bl b, any (x := false) (y := false) (by decide +kernel) (by decide +kernel), q⟩
  | int i => exact ⟨_, _, .int i, any (x := false) (y := false) (by decide +kernel) (by decide +kernel), q⟩
  | str x => exact ⟨_, _, .str x, any (x := false) (y := false) (by decide +kernel) (by decide +kernel), q⟩
  | lst xs => exact ⟨_, _, .lst xs, any (x := true) (y := false) (by decide +kernel) (by decide +kernel), q⟩
  | tup xs => exact ⟨_, _, .tup xs, any (x := false) (y := true) (by decide +kernel) (by decide +kernel), q⟩
  | ob _ _ _ => simp [sh] at s
  | scr _ => simp [sh] at s)
end
/-! ### what is small enough -/
def SmB (o : Option Rat) : Prop := ∀ q, o = some q → Sm q
theorem mul_nd {p q : Rat} (hp : Sm p) (hq : Sm q) : CMulW p.num (q.den : Int) := wide_mul (a := 1000) (b := 1000) hp.1 (by rw [Int.natAbs_natCast]; exact hq.2) (by decide) (by decide) (by decide)
theorem mul_nn {p q : Rat} (hp : Sm p) (hq : Sm q) : CMulW p.num q.num := wide_mul (a := 1000) (b := 1000) hp.1 hq.1 (by decide) (by decide) (by decide)
theorem mul_dd {p q : Rat} (hp : Sm p) (hq : Sm q) : CMulW (p.den : Int) (q.den : Int) := wide_mul (a := 1000) (b := 1000) (by rw [Int.natAbs_natCast]; exact hp.2) (by rw [Int.natAbs_natCast]; exact hq.2) (by decide) (by decide) (by decide)
theorem dd_pos (p q : Rat) : (0 : Int) < (p.den : Int) * (q.den : Int) := Int.mul_pos (Int.natCast_pos.mpr p.den_pos) (Int.natCast_pos.mpr q.den_pos)
theorem dd_small {p q : Rat} (hp : Sm p) (hq : Sm q) : ((p.den : Int) * (q.den : Int)).natAbs < 2 ^ 8000 :=
  Nat.lt_of_lt_of_le (wide_lt (a := 1000) (b := 1000) (by rw [Int.natAbs_natCast]; exact hp.2) (by rw [Int.natAbs_natCast]; exact hq.2)) (Nat.pow_le_pow_right (by decide) (by decide))
/-! ### facts of the text -/
structure Txt (K : PySem.W.Frag) (mg : Str → Option Value) (CL CC CB : Addr) : Prop where
  bi : Bi mg
  zero : ∃ z : Addr, mg "ZERO" = some (.ref z) ∧ ∀ G : Hp, Rep K G (.ref z) (rat 0)
  most : ∃ t, mg "MOST_SECTIONS" = some (.int 24 t)
  gLimits : mg "Limits" = some (.ref CL)
  gClash : mg "Clash" = some (.ref CC)
  oL : OwnTy K CL
  oC : OwnTy K CC
  nMosts : NoAttr K CL "mosts"
  nSteps : NoAttr K CL "steps"
  nFirst : NoAttr K CC "first"
  nSecond : NoAttr K CC "second"
abbrev s_is_whole : Stmt := top 8
theorem sc_is_whole : FnScope ["thing", "low", "high"] ["thing", "low", "high"] (defScope s_is_whole) := ⟨rfl, rfl, rfl, by decide +kernel, rfl, by decide +kernel, by decide +kernel⟩
abbrev s_shared_divisor : Stmt := top 9
theorem sc_shared_divisor : FnScope ["one", "other"] ["one", "other"] (defScope s_shared_divisor) := ⟨rfl, rfl, rfl, by decide +kernel, rfl, by decide +kernel, by decide +kernel⟩
abbrev s_lowest : Stmt := top 10
theorem sc_lowest : FnScope ["top", "bottom", "part"] ["top", "bottom"] (defScope s_lowest) := ⟨rfl, rfl, rfl, by decide +kernel, rfl, by decide +kernel, by decide +kernel⟩
abbrev s_is_ratio : Stmt := top 11
theorem sc_is_ratio : FnScope ["thing"] ["thing"] (defScope s_is_ratio) := ⟨rfl, rfl, rfl, by decide +kernel, rfl, by decide +kernel, by decide +kernel⟩
abbrev s_plus : Stmt := top 12
theorem sc_plus : FnScope ["one", "other"] ["one", "other"] (defScope s_plus) := ⟨rfl, rfl, rfl, by decide +kernel, rfl, by decide +kernel, by decide +kernel⟩
abbrev s_minus : Stmt := top 13
theorem sc_minus : FnScope ["one", "other"] ["one", "other"] (defScope s_minus) := ⟨rfl, rfl, rfl, by decide +kernel, rfl, by decide +kernel, by decide +kernel⟩
abbrev s_compare : Stmt := top 14
theorem sc_compare : FnScope ["one", "other", "gap"] ["one", "other"] (defScope s_compare) := ⟨rfl, rfl, rfl, by decide +kernel, rfl, by decide +kernel, by decide +kernel⟩
abbrev s_size_of : Stmt := top 15
theorem sc_size_of : FnScope ["one"] ["one"] (defScope s_size_of) := ⟨rfl, rfl, rfl, by decide +kernel, rfl, by decide +kernel, by decide +kernel⟩
abbrev s_is_section : Stmt := top 18
theorem sc_is_section : FnScope ["count", "section"] ["count", "section"] (defScope s_is_section) := ⟨rfl, rfl, rfl, by decide +kernel, rfl, by decide +kernel, by decide +kernel⟩
abbrev s_is_bound : Stmt := top 20
theorem sc_is_bound : FnScope ["thing"] ["thing"] (defScope s_is_bound) := ⟨rfl, rfl, rfl, by decide +kernel, rfl, by decide +kernel, by decide +kernel⟩
abbrev s_lesser_bound : Stmt := top 21
theorem sc_lesser_bound : FnScope ["one", "other"] ["one", "other"] (defScope s_lesser_bound) := ⟨rfl, rfl, rfl, by decide +kernel, rfl, by decide +kernel, by decide +kernel⟩
abbrev s_bounds_added : Stmt := top 22
theorem sc_bounds_added : FnScope ["one", "other"] ["one", "other"] (defScope s_bounds_added) := ⟨rfl, rfl, rfl, by decide +kernel, rfl, by decide +kernel, by decide +kernel⟩
abbrev s_passes_bound : Stmt := top 23
theorem sc_passes_bound : FnScope ["one", "other"] ["one", "other"] (defScope s_passes_bound) := ⟨rfl, rfl, rfl, by decide +kernel, rfl, by decide +kernel, by decide +kernel⟩
abbrev s_Clash___init__ : Stmt := inClass (top 24) 0
theorem sc_Clash___init__ : FnScope ["self", "first", "second"] ["self", "first", "second"] (defScope s_Clash___init__) := ⟨rfl, rfl, rfl, by decide +kernel, rfl, by decide +kernel, by decide +kernel⟩
abbrev s_Clash___eq__ : Stmt := inClass (top 24) 1
theorem sc_Clash___eq__ : FnScope ["self", "other"] ["self", "other"] (defScope s_Clash___eq__) := ⟨rfl, rfl, rfl, by decide +kernel, rfl, by decide +kernel, by decide +kernel⟩
abbrev s_Limits___init__ : Stmt := inClass (top 25) 0
theorem sc_Limits___init__ : FnScope ["self", "mosts", "steps", "number"] ["self", "mosts", "steps"] (defScope s_Limits___init__) := ⟨rfl, rfl, rfl, by decide +kernel, rfl, by decide +kernel, by decide +kernel⟩
abbrev s_Limits___len__ : Stmt := inClass (top 25) 1
theorem sc_Limits___len__ : FnScope ["self"] ["self"] (defScope s_Limits___len__) := ⟨rfl, rfl, rfl, by decide +kernel, rfl, by decide +kernel, by decide +kernel⟩
abbrev s_led_along : Stmt := top 26
theorem sc_led_along : FnScope ["starts", "steps", "row", "pole"] ["starts", "steps"] (defScope s_led_along) := ⟨rfl, rfl, rfl, by decide +kernel, rfl, by decide +kernel, by decide +kernel⟩
abbrev s_tighten : Stmt := top 27
theorem sc_tighten : FnScope ["limits", "mosts", "steps", "pole"] ["limits"] (defScope s_tighten) := ⟨rfl, rfl, rfl, by decide +kernel, rfl, by decide +kernel, by decide +kernel⟩
abbrev s_check_known : Stmt := top 28
theorem sc_check_known : FnScope ["limits", "known", "found", "number", "entry"] ["limits", "known"] (defScope s_check_known) := ⟨rfl, rfl, rfl, by decide +kernel, rfl, by decide +kernel, by decide +kernel⟩
abbrev s_distance_between : Stmt := top 29
theorem sc_distance_between : FnScope ["steps", "first", "second", "total", "step"] ["steps", "first", "second"] (defScope s_distance_between) := ⟨rfl, rfl, rfl, by decide +kernel, rfl, by decide +kernel, by decide +kernel⟩
abbrev s_clash_of : Stmt := top 30
theorem sc_clash_of : FnScope ["tight", "steps", "values", "section", "value", "at", "first", "second", "mate"] ["tight", "steps", "values"] (defScope s_clash_of) := ⟨rfl, rfl, rfl, by decide +kernel, rfl, by decide +kernel, by decide +kernel⟩
abbrev s_hum_through : Stmt := top 31
theorem sc_hum_through : FnScope ["limits", "known", "values", "tight", "clash", "starts", "section", "value", "one"] ["limits", "known"] (defScope s_hum_through) := ⟨rfl, rfl, rfl, by decide +kernel, rfl, by decide +kernel, by decide +kernel⟩
abbrev s_law_hand : Stmt := top 33
theorem sc_law_hand : FnScope ["_law_script", "_law_total", "_law_cells", "_law_cell"] ["_law_script"] (defScope s_law_hand) := ⟨rfl, rfl, rfl, by decide +kernel, rfl, by decide +kernel, by decide +kernel⟩
abbrev s_law_mixed : Stmt := top 34
theorem sc_law_mixed : FnScope ["_law_number", "_law_turn", "_law_once", "_law_twice"] ["_law_number", "_law_turn"] (defScope s_law_mixed) := ⟨rfl, rfl, rfl, by decide +kernel, rfl, by decide +kernel, by decide +kernel⟩
abbrev s_law_take : Stmt := top 35
theorem sc_law_take : FnScope ["_law_hand_here", "_law_many_here", "_law_cell", "_law_rest"] ["_law_hand_here", "_law_many_here"] (defScope s_law_take) := ⟨rfl, rfl, rfl, by decide +kernel, rfl, by decide +kernel, by decide +kernel⟩
abbrev s_law_gcd : Stmt := top 36
theorem sc_law_gcd : FnScope ["_law_one", "_law_other"] ["_law_one", "_law_other"] (defScope s_law_gcd) := ⟨rfl, rfl, rfl, by decide +kernel, rfl, by decide +kernel, by decide +kernel⟩
abbrev s_law_ratio : Stmt := top 37
theorem sc_law_ratio : FnScope ["_law_top", "_law_bottom", "_law_part"] ["_law_top", "_law_bottom"] (defScope s_law_ratio) := ⟨rfl, rfl, rfl, by decide +kernel, rfl, by decide +kernel, by decide +kernel⟩
abbrev s_law_plus : Stmt := top 38
theorem sc_law_plus : FnScope ["_law_one", "_law_other"] ["_law_one", "_law_other"] (defScope s_law_plus) := ⟨rfl, rfl, rfl, by decide +kernel, rfl, by decide +kernel, by decide +kernel⟩
abbrev s_law_less : Stmt := top 39
theorem sc_law_less : FnScope ["_law_one", "_law_other"] ["_law_one", "_law_other"] (defScope s_law_less) := ⟨rfl, rfl, rfl, by decide +kernel, rfl, by decide +kernel, by decide +kernel⟩
abbrev s_law_times : Stmt := top 40
theorem sc_law_times : FnScope ["_law_one", "_law_other"] ["_law_one", "_law_other"] (defScope s_law_times) := ⟨rfl, rfl, rfl, by decide +kernel, rfl, by decide +kernel, by decide +kernel⟩
abbrev s_law_below : Stmt := top 41
theorem sc_law_below : FnScope ["_law_one", "_law_other"] ["_law_one", "_law_other"] (defScope s_law_below) := ⟨rfl, rfl, rfl, by decide +kernel, rfl, by decide +kernel, by decide +kernel⟩
abbrev s_law_size : Stmt := top 42
theorem sc_law_size : FnScope ["_law_one"] ["_law_one"] (defScope s_law_size) := ⟨rfl, rfl, rfl, by decide +kernel, rfl, by decide +kernel, by decide +kernel⟩
abbrev s_law_hum : Stmt := top 43
theorem sc_law_hum : FnScope ["_law_hand_here", "_law_count", "_law_share_here", "_law_k"] ["_law_hand_here", "_law_count"] (defScope s_law_hum) := ⟨rfl, rfl, rfl, by decide +kernel, rfl, by decide +kernel, by decide +kernel⟩
abbrev s_law_within : Stmt := top 44
theorem sc_law_within : FnScope ["_law_hum_here", "_law_limits", "_law_mosts", "_law_steps", "_law_k"] ["_law_hum_here", "_law_limits"] (defScope s_law_within) := ⟨rfl, rfl, rfl, by decide +kernel, rfl, by decide +kernel, by decide +kernel⟩
abbrev s_law_is_ratio : Stmt := top 45
theorem sc_law_is_ratio : FnScope ["_law_thing", "_law_part"] ["_law_thing"] (defScope s_law_is_ratio) := ⟨rfl, rfl, rfl, by decide +kernel, rfl, by decide +kernel, by decide +kernel⟩
abbrev s_law_is_row : Stmt := top 46
theorem sc_law_is_row : FnScope ["_law_thing", "_law_many_here", "_law_one"] ["_law_thing", "_law_many_here"] (defScope s_law_is_row) := ⟨rfl, rfl, rfl, by decide +kernel, rfl, by decide +kernel, by decide +kernel⟩
abbrev s_law_many : Stmt := top 47
theorem sc_law_many : FnScope ["_law_hand_here"] ["_law_hand_here"] (defScope s_law_many) := ⟨rfl, rfl, rfl, by decide +kernel, rfl, by decide +kernel, by decide +kernel⟩
abbrev s_law_bound : Stmt := top 48
theorem sc_law_bound : FnScope ["_law_hand_here", "_law_none", "_law_turn"] ["_law_hand_here", "_law_none"] (defScope s_law_bound) := ⟨rfl, rfl, rfl, by decide +kernel, rfl, by decide +kernel, by decide +kernel⟩
abbrev s_law_bounds : Stmt := top 49
theorem sc_law_bounds : FnScope ["_law_hand_here", "_law_count", "_law_turn", "_law_mosts", "_law_steps", "_law_row", "_law_k"] ["_law_hand_here", "_law_count"] (defScope s_law_bounds) := ⟨rfl, rfl, rfl, by decide +kernel, rfl, by decide +kernel, by decide +kernel⟩
abbrev s_law_added : Stmt := top 50
theorem sc_law_added : FnScope ["_law_one", "_law_other"] ["_law_one", "_law_other"] (defScope s_law_added) := ⟨rfl, rfl, rfl, by decide +kernel, rfl, by decide +kernel, by decide +kernel⟩
abbrev s_law_least : Stmt := top 51
theorem sc_law_least : FnScope ["_law_one", "_law_other"] ["_law_one", "_law_other"] (defScope s_law_least) := ⟨rfl, rfl, rfl, by decide +kernel, rfl, by decide +kernel, by decide +kernel⟩
abbrev s_law_passes : Stmt := top 52
theorem sc_law_passes : FnScope ["_law_one", "_law_other"] ["_law_one", "_law_other"] (defScope s_law_passes) := ⟨rfl, rfl, rfl, by decide +kernel, rfl, by decide +kernel, by decide +kernel⟩
abbrev s_law_reach : Stmt := top 53
theorem sc_law_reach : FnScope ["_law_starts", "_law_steps", "_law_place", "_law_best", "_law_far_here", "_law_k"] ["_law_starts", "_law_steps", "_law_place"] (defScope s_law_reach) := ⟨rfl, rfl, rfl, by decide +kernel, rfl, by decide +kernel, by decide +kernel⟩
abbrev s_law_tight : Stmt := top 54
theorem sc_law_tight : FnScope ["_law_limits", "_law_mosts", "_law_steps", "_law_row", "_law_found", "_law_k"] ["_law_limits"] (defScope s_law_tight) := ⟨rfl, rfl, rfl, by decide +kernel, rfl, by decide +kernel, by decide +kernel⟩
abbrev s_law_share : Stmt := top 55
theorem sc_law_share : FnScope ["_law_hand_here", "_law_low", "_law_high"] ["_law_hand_here", "_law_low", "_law_high"] (defScope s_law_share) := ⟨rfl, rfl, rfl, by decide +kernel, rfl, by decide +kernel, by decide +kernel⟩
abbrev s_law_minus_bound : Stmt := top 56
theorem sc_law_minus_bound : FnScope ["_law_one"] ["_law_one"] (defScope s_law_minus_bound) := ⟨rfl, rfl, rfl, by decide +kernel, rfl, by decide +kernel, by decide +kernel⟩
abbrev s_law_higher : Stmt := top 57
theorem sc_law_higher : FnScope ["_law_one", "_law_other"] ["_law_one", "_law_other"] (defScope s_law_higher) := ⟨rfl, rfl, rfl, by decide +kernel, rfl, by decide +kernel, by decide +kernel⟩
abbrev s_law_hum_within : Stmt := top 58
theorem sc_law_hum_within : FnScope ["_law_hand_here", "_law_limits", "_law_tight_here", "_law_row", "_law_k", "_law_high", "_law_low"] ["_law_hand_here", "_law_limits"] (defScope s_law_hum_within) := ⟨rfl, rfl, rfl, by decide +kernel, rfl, by decide +kernel, by decide +kernel⟩
abbrev s_law_known_of : Stmt := top 59
theorem sc_law_known_of : FnScope ["_law_hand_here", "_law_hum_here", "_law_share_here", "_law_k"] ["_law_hand_here", "_law_hum_here"] (defScope s_law_known_of) := ⟨rfl, rfl, rfl, by decide +kernel, rfl, by decide +kernel, by decide +kernel⟩
abbrev s_law_known : Stmt := top 60
theorem sc_law_known : FnScope ["_law_hand_here", "_law_limits", "_law_turn", "_law_known_here", "_law_place", "_law_section", "_law_value_here", "_law_moved"] ["_law_hand_here", "_law_limits"] (defScope s_law_known) := ⟨rfl, rfl, rfl, by decide +kernel, rfl, by decide +kernel, by decide +kernel⟩
abbrev s_law_far : Stmt := top 61
theorem sc_law_far : FnScope ["_law_steps", "_law_first", "_law_second", "_law_total", "_law_step"] ["_law_steps", "_law_first", "_law_second"] (defScope s_law_far) := ⟨rfl, rfl, rfl, by decide +kernel, rfl, by decide +kernel, by decide +kernel⟩
abbrev s_law_clash : Stmt := top 62
theorem sc_law_clash : FnScope ["_law_limits", "_law_known_here", "_law_tight_here", "_law_section", "_law_value_here", "_law_at", "_law_mate", "_law_gap"] ["_law_limits", "_law_known_here"] (defScope s_law_clash) := ⟨rfl, rfl, rfl, by decide +kernel, rfl, by decide +kernel, by decide +kernel⟩
abbrev s_law_value : Stmt := top 63
theorem sc_law_value : FnScope ["_law_known_here", "_law_section", "_law_k", "_law_value_here"] ["_law_known_here", "_law_section"] (defScope s_law_value) := ⟨rfl, rfl, rfl, by decide +kernel, rfl, by decide +kernel, by decide +kernel⟩
abbrev s_law_keeps : Stmt := top 64
theorem sc_law_keeps : FnScope ["_law_hum_here", "_law_known_here", "_law_section", "_law_value_here"] ["_law_hum_here", "_law_known_here"] (defScope s_law_keeps) := ⟨rfl, rfl, rfl, by decide +kernel, rfl, by decide +kernel, by decide +kernel⟩
abbrev s_law_made : Stmt := top 65
theorem sc_law_made : FnScope ["_law_limits"] ["_law_limits"] (defScope s_law_made) := ⟨rfl, rfl, rfl, by decide +kernel, rfl, by decide +kernel, by decide +kernel⟩
abbrev s_law_is_limits : Stmt := top 66
theorem sc_law_is_limits : FnScope ["_law_thing", "_law_limits", "_law_one"] ["_law_thing", "_law_limits"] (defScope s_law_is_limits) := ⟨rfl, rfl, rfl, by decide +kernel, rfl, by decide +kernel, by decide +kernel⟩
abbrev s_law_odd_ratio : Stmt := top 67
theorem sc_law_odd_ratio : FnScope ["_law_hand_here"] ["_law_hand_here"] (defScope s_law_odd_ratio) := ⟨rfl, rfl, rfl, by decide +kernel, rfl, by decide +kernel, by decide +kernel⟩
abbrev s_law_keeping : Stmt := top 68
theorem sc_law_keeping : FnScope ["_law_hand_here", "_law_limits", "_law_known_here", "_law_row", "_law_tight_here", "_law_k", "_law_high", "_law_low", "_law_section", "_law_value_here", "_law_far_here"] ["_law_hand_here", "_law_limits", "_law_known_here"] (defScope s_law_keeping) := ⟨rfl, rfl, rfl, by decide +kernel, rfl, by decide +kernel, by decide +kernel⟩
abbrev s_law_drawn : Stmt := top 69
theorem sc_law_drawn : FnScope ["_law_hand_here", "_law_limits"] ["_law_hand_here", "_law_limits"] (defScope s_law_drawn) := ⟨rfl, rfl, rfl, by decide +kernel, rfl, by decide +kernel, by decide +kernel⟩
abbrev s_law_due : Stmt := top 70
theorem sc_law_due : FnScope ["_law_limits", "_law_known_here", "_law_tight_here", "_law_row", "_law_k", "_law_best", "_law_section", "_law_value_here", "_law_far_here"] ["_law_limits", "_law_known_here"] (defScope s_law_due) := ⟨rfl, rfl, rfl, by decide +kernel, rfl, by decide +kernel, by decide +kernel⟩
abbrev s_law_bounded : Stmt := top 71
theorem sc_law_bounded : FnScope ["_law_limits", "_law_known_here", "_law_place", "_law_k"] ["_law_limits", "_law_known_here", "_law_place"] (defScope s_law_bounded) := ⟨rfl, rfl, rfl, by decide +kernel, rfl, by decide +kernel, by decide +kernel⟩
abbrev s_law_through_right : Stmt := top 72
theorem sc_law_through_right : FnScope ["_law_hand_here", "_law_limits", "_law_known_here", "_law_one", "_law_handed", "_law_told", "_law_clash_here", "_law_turn", "_law_hum_here", "_law_k", "_law_entry"] ["_law_hand_here", "_law_limits", "_law_known_here"] (defScope s_law_through_right) := ⟨rfl, rfl, rfl, by decide +kernel, rfl, by decide +kernel, by decide +kernel⟩
abbrev s_law_word_due : Stmt := top 73
theorem sc_law_word_due : FnScope ["_law_many_here", "_law_known_here", "_law_ahead", "_law_number", "_law_entry"] ["_law_many_here", "_law_known_here"] (defScope s_law_word_due) := ⟨rfl, rfl, rfl, by decide +kernel, rfl, by decide +kernel, by decide +kernel⟩
abbrev s_law_refused : Stmt := top 74
theorem sc_law_refused : FnScope ["_law_one", "_law_known_here", "_law_through", "_law_told", "e", "_law_entry"] ["_law_one", "_law_known_here", "_law_through"] (defScope s_law_refused) := ⟨rfl, rfl, rfl, by decide +kernel, rfl, by decide +kernel, by decide +kernel⟩
abbrev s_law_spoilt : Stmt := top 75
theorem sc_law_spoilt : FnScope ["_law_hand_here", "_law_many_here", "_law_known_here", "_law_row", "_law_place", "_law_turn", "_law_entry"] ["_law_hand_here", "_law_many_here", "_law_known_here"] (defScope s_law_spoilt) := ⟨rfl, rfl, rfl, by decide +kernel, rfl, by decide +kernel, by decide +kernel⟩
abbrev s_law : Stmt := top 76
theorem sc_law : FnScope ["_law_script", "_law_hand_here", "_law_many_here", "_law_limits", "_law_one", "_law_turn", "_law_known_here", "_law_spoilt_here", "_law_due_here"] ["_law_script"] (defScope s_law) := ⟨rfl, rfl, rfl, by decide +kernel, rfl, by decide +kernel, by decide +kernel⟩
end K20
/-! F1: the program's ratios. -/
namespace K20
open PySem L2
open Evl (Ex)
open PyProof.Rows (envOfC)
def p_shared_divisor (ds : List Dt) (Q : Dt → Prop) : Prop := ∃ i j : Int, ds = [.int i, .int j] ∧ Q (.int (Int.gcd i j))
theorem len_shared_divisor {ds : List Dt} {Q : Dt → Prop} (h : p_shared_divisor ds Q) : ds.length = 2 := by
  obtain ⟨i, j, rfl, _⟩ := h; rfl
def p_lowest (ds : List Dt) (Q : Dt → Prop) : Prop := ∃ i j : Int, ds = [.int i, .int j] ∧ 0 < j ∧ j.natAbs < 2 ^ 8000 ∧ Q (rat (mkRat i j.toNat))
theorem len_lowest {ds : List Dt} {Q : Dt → Prop} (h : p_lowest ds Q) : ds.length = 2 := by
  obtain ⟨i, j, rfl, _⟩ := h; rfl
def p_plus (ds : List Dt) (Q : Dt → Prop) : Prop := ∃ p q : Rat, ds = [rat p, rat q] ∧ Sm p ∧ Sm q ∧ Q (rat (p + q))
theorem len_plus {ds : List Dt} {Q : Dt → Prop} (h : p_plus ds Q) : ds.length = 2 := by
  obtain ⟨i, j, rfl, _⟩ := h; rfl
def p_minus (ds : List Dt) (Q : Dt → Prop) : Prop := ∃ p q : Rat, ds = [rat p, rat q] ∧ Sm p ∧ Sm q ∧ Q (rat (p - q))
theorem len_minus {ds : List Dt} {Q : Dt → Prop} (h : p_minus ds Q) : ds.length = 2 := by
  obtain ⟨i, j, rfl, _⟩ := h; rfl
def cmpR (p q : Rat) : Int := if p = q then 0 else if q < p then 1 else -1
def p_compare (ds : List Dt) (Q : Dt → Prop) : Prop := ∃ p q : Rat, ds = [rat p, rat q] ∧ Sm p ∧ Sm q ∧ Q (.int (cmpR p q))
theorem len_compare {ds : List Dt} {Q : Dt → Prop} (h : p_compare ds Q) : ds.length = 2 := by
  obtain ⟨i, j, rfl, _⟩ := h; rfl
def p_size_of (ds : List Dt) (Q : Dt → Prop) : Prop := ∃ p : Rat, ds = [rat p] ∧ Q (rat (absR p))
theorem len_size_of {ds : List Dt} {Q : Dt → Prop} (h : p_size_of ds Q) : ds.length = 1 := by
  obtain ⟨i, rfl, _⟩ := h; rfl
def p_lesser_bound (ds : List Dt) (Q : Dt → Prop) : Prop := ∃ p q : Option Rat, ds = [bd p, bd q] ∧ SmB p ∧ SmB q ∧ Q (bd (minB p q))
theorem len_lesser_bound {ds : List Dt} {Q : Dt → Prop} (h : p_lesser_bound ds Q) : ds.length = 2 := by
  obtain ⟨i, j, rfl, _⟩ := h; rfl
def p_bounds_added (ds : List Dt) (Q : Dt → Prop) : Prop := ∃ p q : Option Rat, ds = [bd p, bd q] ∧ SmB p ∧ SmB q ∧ Q (bd (addB p q))
theorem len_bounds_added {ds : List Dt} {Q : Dt → Prop} (h : p_bounds_added ds Q) : ds.length = 2 := by
  obtain ⟨i, j, rfl, _⟩ := h; rfl
def p_passes_bound (ds : List Dt) (Q : Dt → Prop) : Prop := ∃ p q : Option Rat, ds = [bd p, bd q] ∧ SmB p ∧ SmB q ∧ Q (.bl (passB p q))
theorem len_passes_bound {ds : List Dt} {Q : Dt → Prop} (h : p_passes_bound ds Q) : ds.length = 2 := by
  obtain ⟨i, j, rfl, _⟩ := h; rfl
theorem cmp_gap (p q : Rat) : (if (p.num * (q.den : Int) - q.num * (p.den : Int)) == 0 then (0 : Int) else if 0 < p.num * (q.den : Int) - q.num * (p.den : Int) then 1 else -1) = cmpR p q := by
  unfold cmpR
  have h1 := Rat.le_iff p q
  have h2 := Rat.le_iff q p
  have h3 := Rat.lt_iff q p
  by_cases e : p = q
  · subst e
    simp
  · rw [if_neg e]
    have ne : ¬ p.num * (q.den : Int) = q.num * (p.den : Int) := fun z => e (Rat.le_antisymm (h1.mpr (by omega)) (h2.mpr (by omega)))
    rw [if_neg (by simp; omega)]
    by_cases l : q < p
    · rw [if_pos l, if_pos (by have := h3.mp l; omega)]
    · rw [if_neg l, if_neg (fun z => l (h3.mpr (by omega)))]
theorem abs_rat (p : Rat) : rat (absR p) = .tup [.int (if p.num < 0 then -p.num else p.num), .int p.den] := by
  unfold absR rat
  by_cases h : p < 0
  · rw [if_pos h, if_pos (by rw [← Int.not_le]; exact fun z => absurd (Rat.num_nonneg.mp z) (by grind))]
    rfl
  · rw [if_neg h, if_neg (by rw [Int.not_lt]; exact Rat.num_nonneg.mpr (by grind))]
theorem cmp_le (p q : Rat) : cmpR p q ≤ 0 ↔ p ≤ q := by
  unfold cmpR
  split
  · rename_i e; subst e; exact ⟨fun _ => Rat.le_refl, fun _ => by decide⟩
  · split
    · rename_i h; exact ⟨fun z => absurd z (by decide), fun z => absurd h (by grind)⟩
    · rename_i h; exact ⟨fun _ => by grind, fun _ => by decide⟩
theorem mkRat_dd (p q : Rat) (n : Int) : mkRat n ((p.den : Int) * (q.den : Int)).toNat = mkRat n (p.den * q.den) := by
  rw [← Int.natCast_mul, Int.toNat_natCast]
theorem rat_plus (p q : Rat) : mkRat (p.num * (q.den : Int) + q.num * (p.den : Int)) ((p.den : Int) * (q.den : Int)).toNat = p + q := by
  rw [mkRat_dd, Rat.add_def, Rat.normalize_eq_mkRat]
theorem rat_minus (p q : Rat) : mkRat (p.num * (q.den : Int) - q.num * (p.den : Int)) ((p.den : Int) * (q.den : Int)).toNat = p - q := by
  rw [mkRat_dd, Rat.sub_def, Rat.normalize_eq_mkRat]
theorem rat_times (p q : Rat) : mkRat (p.num * q.num) ((p.den : Int) * (q.den : Int)).toNat = p * q := by
  rw [mkRat_dd, Rat.mul_def, Rat.normalize_eq_mkRat]
/-- lowest terms -/
theorem rat_low (i j : Int) (hj : 0 < j) : rat (mkRat i j.toNat) = .tup [.int (i / (Int.gcd i j : Nat)), .int (j / (Int.gcd i j : Nat))] := by
  have h0 : j.toNat ≠ 0 := by omega
  have e : (j.toNat : Int) = j := by omega
  have g : i.natAbs.gcd j.toNat = Int.gcd i j := by
    unfold Int.gcd
    congr 1
    omega
  unfold rat
  rw [← Rat.normalize_eq_mkRat h0, Rat.normalize_eq]
  dsimp only
  rw [g, Int.natCast_ediv, e]
theorem gcd_step (a b : Nat) (h : b ≠ 0) : Nat.gcd b (a % b) = Nat.gcd a b := by
  rw [Nat.gcd_comm a b, Nat.gcd_rec b a, Nat.gcd_comm]
theorem abs_nat (i : Int) : (if i < 0 then -i else i) = (i.natAbs : Int) := by
  split <;> omega
/-- the state of a gcd loop -/
def GcdI (n : Nat) (ρ : List Sl) : Prop := ∃ a b : Nat, ρ = [.dt (.int a), .dt (.int b)] ∧ Nat.gcd a b = n
def gcdM : List Sl → Nat
  | [_, .dt (.int b)] => b.toNat
  | _ => 0
local macro_rules | `(tactic| walk_at "d1") => `(tactic| first
  | with_reducible refine ds_seq ?_
  | with_reducible refine ds_ret ?_
  | with_reducible refine ds_retN ?_
  | with_reducible refine ds_next ?_
  | with_reducible refine ds_set rfl ?_
  | with_reducible refine ds_asg ?_
  | with_reducible refine ds_if ?_
  | with_reducible refine ds_par rfl rfl ?_
  | with_reducible refine de_var rfl ?_
  | with_reducible refine de_int ?_
  | with_reducible refine de_bl ?_
  | with_reducible refine de_non ?_
  | with_reducible refine de_str ?_
  | with_reducible refine de_add ?_
  | with_reducible refine de_mul ?_
  | with_reducible refine de_ix ?_
  | with_reducible refine de_call ?_
  | with_reducible refine de_callH rfl ?_
  | with_reducible refine de_opI0 ?_
  | with_reducible refine de_opI ?_
  | with_reducible refine de_opB0 ?_
  | with_reducible refine de_isN ?_
  | with_reducible refine de_notN ?_
  | with_reducible refine de_eqD ?_
  | with_reducible refine de_neD ?_
  | with_reducible refine de_neg ?_
  | with_reducible refine de_len ?_
  | with_reducible refine de_int1 ?_
  | with_reducible refine de_abs ?_
  | with_reducible refine de_min2 ?_
  | with_reducible refine de_max2 ?_
  | with_reducible refine de_tup ?_
  | with_reducible refine de_if ?_
  | with_reducible refine de_isBl ?_
  | with_reducible refine de_isIn ?_
  | with_reducible refine de_isTu ?_
  | with_reducible refine de_isLT ?_
  | with_reducible refine de_andV ?_
  | with_reducible refine de_orV ?_
  | with_reducible refine de_notT ?_
  | with_reducible refine de_fld ?_
  | with_reducible refine de_slice ?_
  | with_reducible refine do_none ?_
  | with_reducible refine do_some ?_
  | with_reducible refine dt_test ?_
  | with_reducible refine dt_tru ?_
  | with_reducible refine dt_and ?_
  | with_reducible refine dt_or ?_
  | with_reducible refine dt_not ?_
  | with_reducible refine da_cons ?_
  | with_reducible refine da_nil ?_
  | with_reducible refine de_lst ?_)
local macro_rules | `(tactic| walk_at "d2") => `(tactic| first
  | walk_at "d1"
  | with_reducible refine iteT ?_
  | with_reducible refine iteF ?_
  | (with_reducible refine Exists.intro _ (Exists.intro _ (And.intro rfl (And.intro rfl ?_))))
  | (with_reducible refine Exists.intro _ (And.intro rfl ?_))
  | (with_reducible refine .inl (Exists.intro _ (Exists.intro _ (And.intro rfl (And.intro rfl ?_)))))
  | (refine ⟨_, _, _, .inr rfl, rfl, rfl, ?_⟩)
  | (refine ⟨Nat.le_of_ble_eq_true rfl, ?_⟩)
  | (with_reducible refine And.intro rfl ?_)
  | (with_reducible refine And.intro (by walk_at "mul") ?_)
  | (with_reducible refine And.intro (by walk_at "shd") ?_))
local macro_rules | `(tactic| walk_at "dd") => `(tactic| (repeat walk_at "d2"))
local macro_rules | `(tactic| walk_at "set") => `(tactic| simp only [List.set_cons_zero, List.set_cons_succ])
local macro_rules | `(tactic| walk_at "mul") => `(tactic| first
  | exact mul_nd (by assumption) (by assumption) | exact mul_nn (by assumption) (by assumption) | exact mul_dd (by assumption) (by assumption))
local macro_rules | `(tactic| walk_at "shd") => `(tactic| first
  | exact shD_int _ | exact shD_non | exact shD_rat _ | exact shD_tupTab _ _ | with_reducible assumption)
section
variable {P : Program} {w : World} {K : PySem.W.Frag} {mg : Str → Option Value} {base : Heap} {CL CC CB : Addr}
theorem ok_shared_divisor (T : Txt K mg CL CC CB) (D : Def K mg "shared_divisor" s_shared_divisor)   :
    Cal P w K mg base "shared_divisor" 1 ["one", "other"] (spD K p_shared_divisor) := by
  obtain ⟨f, fd, F, hg⟩ := D
  refine ⟨f, fd, ok_D (k := 0) F sc_shared_divisor (fun ds Q h => len_shared_divisor h) (fun cdv A outer s H E hr => ⟨_, (pss_cons (ps_set (i := 0) sc_shared_divisor.nd rfl (Or.inl rfl) (pe_abs T.bi (pv 0)))
    (pss_cons (ps_set (i := 1) sc_shared_divisor.nd rfl (Or.inl rfl) (pe_abs T.bi (pv 1)))
    (pss_cons (ps_while PassesOwn.never (pt_cmpR (op_neD hr.units) (pv 1) pe_int (nomark _)) (pss_one (ps_par (i := 0) (j := 1) rfl sc_shared_divisor.nd rfl rfl (by decide) rfl rfl (pa_cons (pv 1) (pa_cons (pe_op op_mod (pv 0) (pv 1)) pa_nil)) rfl)))
    (pss_one (ps_ret (pv 0)))))), fun G0 H0 ds Q h => ?_⟩), hg, F.kp, F.binds fun _ _ _ _ _ _ us hl => match us, hl with | [_, _], _ => rfl⟩
  try dsimp only [cxOf, Cx.nox, Cx.wish]
  obtain ⟨i, j, rfl, k⟩ := h
  change DS _ _ [_, _] _
  walk_at "dd"
  walk_at "set"
  refine ds_while (GcdI (Int.gcd i j)) gcdM ⟨i.natAbs, j.natAbs, by rw [abs_nat, abs_nat], rfl⟩ ?_
  rintro ρ ⟨a, b, rfl, hab⟩
  walk_at "dd"
  rw [deq_int]
  by_cases hb : b = 0
  · subst hb
    rw [if_neg (by simp)]
    walk_at "dd"
    rw [Nat.gcd_zero_right] at hab
    rw [hab]
    exact k
  · rw [if_pos (by simpa using hb)]
    walk_at "dd"
    refine ⟨by omega, ?_⟩
    walk_at "dd"
    refine ⟨_, _, rfl, ?_⟩
    walk_at "set"
    refine ⟨⟨b, a % b, by rw [Int.natCast_emod], by rw [gcd_step a b hb, hab]⟩, ?_⟩
    show ((a : Int) % (b : Int)).toNat < (b : Int).toNat
    have := Int.emod_lt_of_pos (a : Int) (show (0 : Int) < b by omega)
    have := Int.emod_nonneg (a : Int) (show (b : Int) ≠ 0 by omega)
    omega
theorem ok_lowest (T : Txt K mg CL CC CB) (D : Def K mg "lowest" s_lowest) (C_shared_divisor : Cal P w K mg base "shared_divisor" 1 ["one", "other"] (spD K p_shared_divisor))  :
    Cal P w K mg base "lowest" 2 ["top", "bottom"] (spD K p_lowest) := by
  obtain ⟨f, fd, F, hg⟩ := D
  refine ⟨f, fd, ok_D (k := 1) F sc_lowest (fun ds Q h => len_lowest h) (fun cdv A outer s H E hr => ⟨_, (pss_cons (ps_set (i := 2) sc_lowest.nd rfl (Or.inl rfl) (pe_cal C_shared_divisor hr (by decide) rfl (pa_cons (pv 0) (pa_cons (pv 1) pa_nil))))
    (pss_cons (ps_if (pt_cmpR op_lt (pv 1) pe_int (nomark _)) (pss_one (ps_set (i := 2) sc_lowest.nd rfl (Or.inl rfl) (pe_un un_neg (pv 2)))) pss_nil)
    (pss_one (ps_ret (pe_tup (pa_cons (pe_op op_fdivW (pv 0) (pv 2)) (pa_cons (pe_op op_fdivW (pv 1) (pv 2)) pa_nil))))))), fun G0 H0 ds Q h => ?_⟩), hg, F.kp, F.binds fun _ _ _ _ _ _ us hl => match us, hl with | [_, _], _ => rfl⟩
  try dsimp only [cxOf, Cx.nox, Cx.wish]
  obtain ⟨i, j, rfl, hj, hb, k⟩ := h
  change DS _ _ [_, _, .no] _
  walk_at "dd"
  refine ⟨_, _, rfl, ?_⟩
  walk_at "dd"
  rw [if_neg (by simp; omega)]
  have hg : 0 < Int.gcd i j := Int.gcd_pos_of_ne_zero_right i (by omega)
  have hg2 : Int.gcd i j ≤ j.natAbs := Nat.le_of_dvd (by omega) (Int.gcd_dvd_natAbs_right i j)
  have hd : CDivW i (Int.gcd i j : Nat) := wide_div (b := 8000) (by omega) (by simp; omega) (by decide) (by decide)
  have hd2 : CDivW j (Int.gcd i j : Nat) := wide_div (b := 8000) (by omega) (by simp; omega) (by decide) (by decide)
  walk_at "dd"
  rw [rat_low i j hj] at k
  exact k
theorem ok_plus (T : Txt K mg CL CC CB) (D : Def K mg "plus" s_plus) (C_lowest : Cal P w K mg base "lowest" 2 ["top", "bottom"] (spD K p_lowest))  :
    Cal P w K mg base "plus" 3 ["one", "other"] (spD K p_plus) := by
  obtain ⟨f, fd, F, hg⟩ := D
  refine ⟨f, fd, ok_D (k := 2) F sc_plus (fun ds Q h => len_plus h) (fun cdv A outer s H E hr => ⟨_, (pss_one (ps_ret (pe_cal C_lowest hr (by decide) rfl (pa_cons (pe_op op_addA (pe_op op_mulA (pe_ix ix_seq (pv 0) pe_int (fun _ _ => rfl)) (pe_ix ix_seq (pv 1) pe_int (fun _ _ => rfl))) (pe_op op_mulA (pe_ix ix_seq (pv 1) pe_int (fun _ _ => rfl)) (pe_ix ix_seq (pv 0) pe_int (fun _ _ => rfl)))) (pa_cons (pe_op op_mulA (pe_ix ix_seq (pv 0) pe_int (fun _ _ => rfl)) (pe_ix ix_seq (pv 1) pe_int (fun _ _ => rfl))) pa_nil))))), fun G0 H0 ds Q h => ?_⟩), hg, F.kp, F.binds fun _ _ _ _ _ _ us hl => match us, hl with | [_, _], _ => rfl⟩
  try dsimp only [cxOf, Cx.nox, Cx.wish]
  obtain ⟨p, q, rfl, hp, hq, k⟩ := h
  change DS _ _ [_, _] _
  walk_at "dd"
  refine ⟨_, _, rfl, dd_pos p q, dd_small hp hq, ?_⟩
  rw [rat_plus]
  exact k
theorem ok_minus (T : Txt K mg CL CC CB) (D : Def K mg "minus" s_minus) (C_lowest : Cal P w K mg base "lowest" 2 ["top", "bottom"] (spD K p_lowest))  :
    Cal P w K mg base "minus" 3 ["one", "other"] (spD K p_minus) := by
  obtain ⟨f, fd, F, hg⟩ := D
  refine ⟨f, fd, ok_D (k := 2) F sc_minus (fun ds Q h => len_minus h) (fun cdv A outer s H E hr => ⟨_, (pss_one (ps_ret (pe_cal C_lowest hr (by decide) rfl (pa_cons (pe_op op_sub (pe_op op_mulA (pe_ix ix_seq (pv 0) pe_int (fun _ _ => rfl)) (pe_ix ix_seq (pv 1) pe_int (fun _ _ => rfl))) (pe_op op_mulA (pe_ix ix_seq (pv 1) pe_int (fun _ _ => rfl)) (pe_ix ix_seq (pv 0) pe_int (fun _ _ => rfl)))) (pa_cons (pe_op op_mulA (pe_ix ix_seq (pv 0) pe_int (fun _ _ => rfl)) (pe_ix ix_seq (pv 1) pe_int (fun _ _ => rfl))) pa_nil))))), fun G0 H0 ds Q h => ?_⟩), hg, F.kp, F.binds fun _ _ _ _ _ _ us hl => match us, hl with | [_, _], _ => rfl⟩
  try dsimp only [cxOf, Cx.nox, Cx.wish]
  obtain ⟨p, q, rfl, hp, hq, k⟩ := h
  change DS _ _ [_, _] _
  walk_at "dd"
  refine ⟨_, _, rfl, dd_pos p q, dd_small hp hq, ?_⟩
  rw [rat_minus]
  exact k
theorem ok_compare (T : Txt K mg CL CC CB) (D : Def K mg "compare" s_compare)   :
    Cal P w K mg base "compare" 1 ["one", "other"] (spD K p_compare) := by
  obtain ⟨f, fd, F, hg⟩ := D
  refine ⟨f, fd, ok_D (k := 0) F sc_compare (fun ds Q h => len_compare h) (fun cdv A outer s H E hr => ⟨_, (pss_cons (ps_set (i := 2) sc_compare.nd rfl (Or.inl rfl) (pe_op op_sub (pe_op op_mulA (pe_ix ix_seq (pv 0) pe_int (fun _ _ => rfl)) (pe_ix ix_seq (pv 1) pe_int (fun _ _ => rfl))) (pe_op op_mulA (pe_ix ix_seq (pv 1) pe_int (fun _ _ => rfl)) (pe_ix ix_seq (pv 0) pe_int (fun _ _ => rfl)))))
    (pss_cons (ps_if (pt_cmpR (op_eqD hr.units) (pv 2) pe_int (nomark _)) (pss_one (ps_ret pe_int)) pss_nil)
    (pss_one (ps_ret (pe_ifExp (pt_cmpR op_gt (pv 2) pe_int (nomark _)) pe_int (pe_un un_neg pe_int)))))), fun G0 H0 ds Q h => ?_⟩), hg, F.kp, F.binds fun _ _ _ _ _ _ us hl => match us, hl with | [_, _], _ => rfl⟩
  try dsimp only [cxOf, Cx.nox, Cx.wish]
  obtain ⟨p, q, rfl, hp, hq, k⟩ := h
  change DS _ _ [_, _, .no] _
  rw [← cmp_gap] at k
  walk_at "dd"
  rw [deq_int]
  cases e : (p.num * (q.den : Int) - q.num * (p.den : Int)) == 0 with
  | true =>
    rw [if_pos rfl]
    rw [e, if_pos rfl] at k
    walk_at "dd"
    exact k
  | false =>
    rw [if_neg Bool.false_ne_true]
    rw [e, if_neg Bool.false_ne_true] at k
    walk_at "dd"
    split
    · rename_i h
      rw [if_pos (of_decide_eq_true h)] at k
      walk_at "dd"
      exact k
    · rename_i h
      rw [if_neg (fun z => h (decide_eq_true z))] at k
      walk_at "dd"
      exact k
theorem ok_size_of (T : Txt K mg CL CC CB) (D : Def K mg "size_of" s_size_of)   :
    Cal P w K mg base "size_of" 1 ["one"] (spD K p_size_of) := by
  obtain ⟨f, fd, F, hg⟩ := D
  refine ⟨f, fd, ok_D (k := 0) F sc_size_of (fun ds Q h => len_size_of h) (fun cdv A outer s H E hr => ⟨_, (pss_one (ps_ret (pe_tup (pa_cons (pe_abs T.bi (pe_ix ix_seq (pv 0) pe_int (fun _ _ => rfl))) (pa_cons (pe_ix ix_seq (pv 0) pe_int (fun _ _ => rfl)) pa_nil))))), fun G0 H0 ds Q h => ?_⟩), hg, F.kp, F.binds fun _ _ _ _ _ _ us hl => match us, hl with | [_], _ => rfl⟩
  try dsimp only [cxOf, Cx.nox, Cx.wish]
  obtain ⟨p, rfl, k⟩ := h
  change DS _ _ [_] _
  rw [abs_rat] at k
  walk_at "dd"
  exact k
theorem ok_lesser_bound (T : Txt K mg CL CC CB) (D : Def K mg "lesser_bound" s_lesser_bound) (C_compare : Cal P w K mg base "compare" 1 ["one", "other"] (spD K p_compare))  :
    Cal P w K mg base "lesser_bound" 2 ["one", "other"] (spD K p_lesser_bound) := by
  obtain ⟨f, fd, F, hg⟩ := D
  refine ⟨f, fd, ok_D (k := 1) F sc_lesser_bound (fun ds Q h => len_lesser_bound h) (fun cdv A outer s H E hr => ⟨_, (pss_cons (ps_if (pt_cmpR op_isN (pv 0) pe_non (nomark _)) (pss_one (ps_ret (pv 1))) pss_nil)
    (pss_cons (ps_if (PW.pt (pw_or (pt_cmpR op_isN (pv 1) pe_non (nomark _)) (pw_or1 (pt_cmpR op_le (pe_cal C_compare hr (by decide) rfl (pa_cons (pv 0) (pa_cons (pv 1) pa_nil))) pe_int (nomark _))))) (pss_one (ps_ret (pv 0))) pss_nil)
    (pss_one (ps_ret (pv 1))))), fun G0 H0 ds Q h => ?_⟩), hg, F.kp, F.binds fun _ _ _ _ _ _ us hl => match us, hl with | [_, _], _ => rfl⟩
  try dsimp only [cxOf, Cx.nox, Cx.wish]
  obtain ⟨p, q, rfl, hp, hq, k⟩ := h
  change DS _ _ [_, _] _
  walk_at "dd"
  rw [isNon_bd]
  cases p with
  | none =>
    refine ite_t rfl ?_
    walk_at "dd"
    exact k
  | some p =>
    refine ite_f rfl ?_
    walk_at "dd"
    rw [isNon_bd]
    cases q with
    | none =>
      refine ite_t rfl ?_
      walk_at "dd"
      exact k
    | some q =>
      refine ite_f rfl ?_
      walk_at "dd"
      refine ⟨p, q, rfl, hp p rfl, hq q rfl, ?_⟩
      walk_at "dd"
      have e : minB (some p) (some q) = some (if p ≤ q then p else q) := rfl
      rw [e] at k
      by_cases h : p ≤ q
      · rw [if_pos (decide_eq_true ((cmp_le p q).mpr h))]
        rw [if_pos h] at k
        walk_at "dd"
        exact k
      · rw [if_neg (fun z => h ((cmp_le p q).mp (of_decide_eq_true z)))]
        rw [if_neg h] at k
        walk_at "dd"
        exact k
theorem ok_bounds_added (T : Txt K mg CL CC CB) (D : Def K mg "bounds_added" s_bounds_added) (C_plus : Cal P w K mg base "plus" 3 ["one", "other"] (spD K p_plus))  :
    Cal P w K mg base "bounds_added" 4 ["one", "other"] (spD K p_bounds_added) := by
  obtain ⟨f, fd, F, hg⟩ := D
  refine ⟨f, fd, ok_D (k := 3) F sc_bounds_added (fun ds Q h => len_bounds_added h) (fun cdv A outer s H E hr => ⟨_, (pss_cons (ps_if (PW.pt (pw_or (pt_cmpR op_isN (pv 0) pe_non (nomark _)) (pw_or1 (pt_cmpR op_isN (pv 1) pe_non (nomark _))))) (pss_one (ps_ret pe_non)) pss_nil)
    (pss_one (ps_ret (pe_cal C_plus hr (by decide) rfl (pa_cons (pv 0) (pa_cons (pv 1) pa_nil)))))), fun G0 H0 ds Q h => ?_⟩), hg, F.kp, F.binds fun _ _ _ _ _ _ us hl => match us, hl with | [_, _], _ => rfl⟩
  try dsimp only [cxOf, Cx.nox, Cx.wish]
  obtain ⟨p, q, rfl, hp, hq, k⟩ := h
  change DS _ _ [_, _] _
  walk_at "dd"
  rw [isNon_bd]
  cases p with
  | none =>
    refine ite_t rfl ?_
    walk_at "dd"
    exact k
  | some p =>
    refine ite_f rfl ?_
    walk_at "dd"
    rw [isNon_bd]
    cases q with
    | none =>
      refine ite_t rfl ?_
      walk_at "dd"
      exact k
    | some q =>
      refine ite_f rfl ?_
      walk_at "dd"
      exact ⟨p, q, rfl, hp p rfl, hq q rfl, k⟩
theorem ok_passes_bound (T : Txt K mg CL CC CB) (D : Def K mg "passes_bound" s_passes_bound) (C_compare : Cal P w K mg base "compare" 1 ["one", "other"] (spD K p_compare))  :
    Cal P w K mg base "passes_bound" 2 ["one", "other"] (spD K p_passes_bound) := by
  obtain ⟨f, fd, F, hg⟩ := D
  refine ⟨f, fd, ok_D (k := 1) F sc_passes_bound (fun ds Q h => len_passes_bound h) (fun cdv A outer s H E hr => ⟨_, (pss_one (ps_ret (pe_and (pe_cmpR op_notN (pv 1) pe_non (nomark _)) (pe_one (pe_or (pe_cmpR op_isN (pv 0) pe_non (nomark _)) (pe_one (pe_cmpR op_gt (pe_cal C_compare hr (by decide) rfl (pa_cons (pv 0) (pa_cons (pv 1) pa_nil))) pe_int (nomark _)))))))), fun G0 H0 ds Q h => ?_⟩), hg, F.kp, F.binds fun _ _ _ _ _ _ us hl => match us, hl with | [_, _], _ => rfl⟩
  try dsimp only [cxOf, Cx.nox, Cx.wish]
  obtain ⟨p, q, rfl, hp, hq, k⟩ := h
  change DS _ _ [_, _] _
  walk_at "dd"
  rw [isNon_bd]
  cases q with
  | none =>
    refine ite_f rfl ?_
    cases p <;> exact k
  | some q =>
    refine ite_t rfl ?_
    walk_at "dd"
    rw [isNon_bd]
    cases p with
    | none =>
      refine ite_t rfl ?_
      exact k
    | some p =>
      refine ite_f rfl ?_
      walk_at "dd"
      refine ⟨p, q, rfl, hp p rfl, hq q rfl, ?_⟩
      walk_at "dd"
      have e : decide (0 < cmpR p q) = passB (some p) (some q) := by
        show _ = decide (q < p)
        have := cmp_le p q
        by_cases h : q < p
        · rw [decide_eq_true h, decide_eq_true]
          rw [← Int.not_le, this]
          grind
        · rw [decide_eq_false h, decide_eq_false]
          rw [Int.not_lt, this]
          grind
      rw [e]
      exact k
end
end K20
namespace K20
open PySem L2
open Evl (Ex)
open PyProof.Rows (envOfC)
/-! F2: the law's own ratios and bounds. -/
abbrev p_law_gcd := p_shared_divisor
theorem len_law_gcd {ds : List Dt} {Q : Dt → Prop} (h : p_law_gcd ds Q) : ds.length = 2 := len_shared_divisor h
abbrev p_law_ratio := p_lowest
theorem len_law_ratio {ds : List Dt} {Q : Dt → Prop} (h : p_law_ratio ds Q) : ds.length = 2 := len_lowest h
abbrev p_law_plus := p_plus
theorem len_law_plus {ds : List Dt} {Q : Dt → Prop} (h : p_law_plus ds Q) : ds.length = 2 := len_plus h
abbrev p_law_less := p_minus
theorem len_law_less {ds : List Dt} {Q : Dt → Prop} (h : p_law_less ds Q) : ds.length = 2 := len_minus h
def p_law_times (ds : List Dt) (Q : Dt → Prop) : Prop := ∃ p q : Rat, ds = [rat p, rat q] ∧ Sm p ∧ Sm q ∧ Q (rat (p * q))
theorem len_law_times {ds : List Dt} {Q : Dt → Prop} (h : p_law_times ds Q) : ds.length = 2 := by
  obtain ⟨i, j, rfl, _⟩ := h; rfl
def p_law_below (ds : List Dt) (Q : Dt → Prop) : Prop := ∃ p q : Rat, ds = [rat p, rat q] ∧ Sm p ∧ Sm q ∧ Q (.bl (decide (p < q)))
theorem len_law_below {ds : List Dt} {Q : Dt → Prop} (h : p_law_below ds Q) : ds.length = 2 := by
  obtain ⟨i, j, rfl, _⟩ := h; rfl
abbrev p_law_size := p_size_of
theorem len_law_size {ds : List Dt} {Q : Dt → Prop} (h : p_law_size ds Q) : ds.length = 1 := len_size_of h
abbrev p_law_added := p_bounds_added
theorem len_law_added {ds : List Dt} {Q : Dt → Prop} (h : p_law_added ds Q) : ds.length = 2 := len_bounds_added h
abbrev p_law_least := p_lesser_bound
theorem len_law_least {ds : List Dt} {Q : Dt → Prop} (h : p_law_least ds Q) : ds.length = 2 := len_lesser_bound h
abbrev p_law_passes := p_passes_bound
theorem len_law_passes {ds : List Dt} {Q : Dt → Prop} (h : p_law_passes ds Q) : ds.length = 2 := len_passes_bound h
def p_law_minus_bound (ds : List Dt) (Q : Dt → Prop) : Prop := ∃ p : Option Rat, ds = [bd p] ∧ Q (bd (negB p))
theorem len_law_minus_bound {ds : List Dt} {Q : Dt → Prop} (h : p_law_minus_bound ds Q) : ds.length = 1 := by
  obtain ⟨i, rfl, _⟩ := h; rfl
def p_law_higher (ds : List Dt) (Q : Dt → Prop) : Prop := ∃ p q : Option Rat, ds = [bd p, bd q] ∧ SmB p ∧ SmB q ∧ Q (bd (maxB p q))
theorem len_law_higher {ds : List Dt} {Q : Dt → Prop} (h : p_law_higher ds Q) : ds.length = 2 := by
  obtain ⟨i, j, rfl, _⟩ := h; rfl
theorem below_eq (p q : Rat) : decide (p.num * (q.den : Int) < q.num * (p.den : Int)) = decide (p < q) := by
  by_cases h : p < q
  · rw [decide_eq_true h, decide_eq_true ((Rat.lt_iff p q).mp h)]
  · rw [decide_eq_false h, decide_eq_false fun z => h ((Rat.lt_iff p q).mpr z)]
local macro_rules | `(tactic| walk_at "d1") => `(tactic| first
  | with_reducible refine ds_seq ?_
  | with_reducible refine ds_ret ?_
  | with_reducible refine ds_retN ?_
  | with_reducible refine ds_next ?_
  | with_reducible refine ds_set rfl ?_
  | with_reducible refine ds_asg ?_
  | with_reducible refine ds_if ?_
  | with_reducible refine ds_par rfl rfl ?_
  | with_reducible refine de_var rfl ?_
  | with_reducible refine de_int ?_
  | with_reducible refine de_bl ?_
  | with_reducible refine de_non ?_
  | with_reducible refine de_str ?_
  | with_reducible refine de_add ?_
  | with_reducible refine de_mul ?_
  | with_reducible refine de_ix ?_
  | with_reducible refine de_call ?_
  | with_reducible refine de_callH rfl ?_
  | with_reducible refine de_opI0 ?_
  | with_reducible refine de_opI ?_
  | with_reducible refine de_opB0 ?_
  | with_reducible refine de_isN ?_
  | with_reducible refine de_notN ?_
  | with_reducible refine de_eqD ?_
  | with_reducible refine de_neD ?_
  | with_reducible refine de_neg ?_
  | with_reducible refine de_len ?_
  | with_reducible refine de_int1 ?_
  | with_reducible refine de_abs ?_
  | with_reducible refine de_min2 ?_
  | with_reducible refine de_max2 ?_
  | with_reducible refine de_tup ?_
  | with_reducible refine de_if ?_
  | with_reducible refine de_isBl ?_
  | with_reducible refine de_isIn ?_
  | with_reducible refine de_isTu ?_
  | with_reducible refine de_isLT ?_
  | with_reducible refine de_andV ?_
  | with_reducible refine de_orV ?_
  | with_reducible refine de_notT ?_
  | with_reducible refine de_fld ?_
  | with_reducible refine de_slice ?_
  | with_reducible refine do_none ?_
  | with_reducible refine do_some ?_
  | with_reducible refine dt_test ?_
  | with_reducible refine dt_tru ?_
  | with_reducible refine dt_and ?_
  | with_reducible refine dt_or ?_
  | with_reducible refine dt_not ?_
  | with_reducible refine da_cons ?_
  | with_reducible refine da_nil ?_
  | with_reducible refine de_lst ?_)
local macro_rules | `(tactic| walk_at "d2") => `(tactic| first
  | walk_at "d1"
  | with_reducible refine iteT ?_
  | with_reducible refine iteF ?_
  | (with_reducible refine Exists.intro _ (Exists.intro _ (And.intro rfl (And.intro rfl ?_))))
  | (with_reducible refine Exists.intro _ (And.intro rfl ?_))
  | (with_reducible refine .inl (Exists.intro _ (Exists.intro _ (And.intro rfl (And.intro rfl ?_)))))
  | (refine ⟨_, _, _, .inr rfl, rfl, rfl, ?_⟩)
  | (refine ⟨Nat.le_of_ble_eq_true rfl, ?_⟩)
  | (with_reducible refine And.intro rfl ?_)
  | (with_reducible refine And.intro (by walk_at "mul") ?_)
  | (with_reducible refine And.intro (by walk_at "shd") ?_))
local macro_rules | `(tactic| walk_at "dd") => `(tactic| (repeat walk_at "d2"))
local macro_rules | `(tactic| walk_at "set") => `(tactic| simp only [List.set_cons_zero, List.set_cons_succ])
local macro_rules | `(tactic| walk_at "mul") => `(tactic| first
  | exact mul_nd (by assumption) (by assumption) | exact mul_nn (by assumption) (by assumption) | exact mul_dd (by assumption) (by assumption))
local macro_rules | `(tactic| walk_at "shd") => `(tactic| first
  | exact shD_int _ | exact shD_non | exact shD_rat _ | exact shD_tupTab _ _ | with_reducible assumption)
section
variable {P : Program} {w : World} {K : PySem.W.Frag} {mg : Str → Option Value} {base : Heap} {CL CC CB : Addr}
theorem ok_law_gcd (T : Txt K mg CL CC CB) (D : Def K mg "_law_gcd" s_law_gcd)   :
    Cal P w K mg base "_law_gcd" 1 ["_law_one", "_law_other"] (spD K p_law_gcd) := by
  obtain ⟨f, fd, F, hg⟩ := D
  refine ⟨f, fd, ok_D (k := 0) F sc_law_gcd (fun ds Q h => len_law_gcd h) (fun cdv A outer s H E hr => ⟨_, (pss_cons (ps_par (i := 0) (j := 1) rfl sc_law_gcd.nd rfl rfl (by decide) rfl rfl (pa_cons (pe_abs T.bi (pv 0)) (pa_cons (pe_abs T.bi (pv 1)) pa_nil)) rfl)
    (pss_cons (ps_while PassesOwn.never (pt_tru (pv 1)) (pss_one (ps_par (i := 0) (j := 1) rfl sc_law_gcd.nd rfl rfl (by decide) rfl rfl (pa_cons (pv 1) (pa_cons (pe_op op_mod (pe_int1 T.bi (pv 0)) (pv 1)) pa_nil)) rfl)))
    (pss_one (ps_ret (pv 0))))), fun G0 H0 ds Q h => ?_⟩), hg, F.kp, F.binds fun _ _ _ _ _ _ us hl => match us, hl with | [_, _], _ => rfl⟩
  try dsimp only [cxOf, Cx.nox, Cx.wish]
  obtain ⟨i, j, rfl, k⟩ := h
  change DS _ _ [_, _] _
  walk_at "dd"
  refine ⟨_, _, rfl, ?_⟩
  walk_at "dd"
  walk_at "set"
  refine ds_while (GcdI (Int.gcd i j)) gcdM ⟨i.natAbs, j.natAbs, by rw [abs_nat, abs_nat], rfl⟩ ?_
  rintro ρ ⟨a, b, rfl, hab⟩
  walk_at "dd"
  by_cases hb : b = 0
  · subst hb
    rw [if_neg (by simp)]
    walk_at "dd"
    rw [Nat.gcd_zero_right] at hab
    rw [hab]
    exact k
  · rw [if_pos (by simpa using hb)]
    walk_at "dd"
    refine ⟨by omega, ?_⟩
    walk_at "dd"
    refine ⟨_, _, rfl, ?_⟩
    walk_at "set"
    refine ⟨⟨b, a % b, by rw [Int.natCast_emod], by rw [gcd_step a b hb, hab]⟩, ?_⟩
    show ((a : Int) % (b : Int)).toNat < (b : Int).toNat
    have := Int.emod_lt_of_pos (a : Int) (show (0 : Int) < b by omega)
    have := Int.emod_nonneg (a : Int) (show (b : Int) ≠ 0 by omega)
    omega
theorem ok_law_ratio (T : Txt K mg CL CC CB) (D : Def K mg "_law_ratio" s_law_ratio) (C_law_gcd : Cal P w K mg base "_law_gcd" 1 ["_law_one", "_law_other"] (spD K p_law_gcd))  :
    Cal P w K mg base "_law_ratio" 2 ["_law_top", "_law_bottom"] (spD K p_law_ratio) := by
  obtain ⟨f, fd, F, hg⟩ := D
  refine ⟨f, fd, ok_D (k := 1) F sc_law_ratio (fun ds Q h => len_law_ratio h) (fun cdv A outer s H E hr => ⟨_, (pss_cons (ps_set (i := 2) sc_law_ratio.nd rfl (Or.inl rfl) (pe_cal C_law_gcd hr (by decide) rfl (pa_cons (pv 0) (pa_cons (pv 1) pa_nil))))
    (pss_cons (ps_if (pt_cmpR op_lt (pv 1) pe_int (nomark _)) (pss_one (ps_set (i := 2) sc_law_ratio.nd rfl (Or.inl rfl) (pe_un un_neg (pv 2)))) pss_nil)
    (pss_one (ps_ret (pe_tup (pa_cons (pe_op op_fdivW (pv 0) (pv 2)) (pa_cons (pe_op op_fdivW (pv 1) (pv 2)) pa_nil))))))), fun G0 H0 ds Q h => ?_⟩), hg, F.kp, F.binds fun _ _ _ _ _ _ us hl => match us, hl with | [_, _], _ => rfl⟩
  try dsimp only [cxOf, Cx.nox, Cx.wish]
  obtain ⟨i, j, rfl, hj, hb, k⟩ := h
  change DS _ _ [_, _, .no] _
  walk_at "dd"
  refine ⟨_, _, rfl, ?_⟩
  walk_at "dd"
  rw [if_neg (by simp; omega)]
  have hg : 0 < Int.gcd i j := Int.gcd_pos_of_ne_zero_right i (by omega)
  have hg2 : Int.gcd i j ≤ j.natAbs := Nat.le_of_dvd (by omega) (Int.gcd_dvd_natAbs_right i j)
  have hd : CDivW i (Int.gcd i j : Nat) := wide_div (b := 8000) (by omega) (by simp; omega) (by decide) (by decide)
  have hd2 : CDivW j (Int.gcd i j : Nat) := wide_div (b := 8000) (by omega) (by simp; omega) (by decide) (by decide)
  walk_at "dd"
  rw [rat_low i j hj] at k
  exact k
theorem ok_law_plus (T : Txt K mg CL CC CB) (D : Def K mg "_law_plus" s_law_plus) (C_law_ratio : Cal P w K mg base "_law_ratio" 2 ["_law_top", "_law_bottom"] (spD K p_law_ratio))  :
    Cal P w K mg base "_law_plus" 3 ["_law_one", "_law_other"] (spD K p_law_plus) := by
  obtain ⟨f, fd, F, hg⟩ := D
  refine ⟨f, fd, ok_D (k := 2) F sc_law_plus (fun ds Q h => len_law_plus h) (fun cdv A outer s H E hr => ⟨_, (pss_one (ps_ret (pe_cal C_law_ratio hr (by decide) rfl (pa_cons (pe_op op_addA (pe_op op_mulA (pe_ix ix_seq (pv 0) pe_int (fun _ _ => rfl)) (pe_ix ix_seq (pv 1) pe_int (fun _ _ => rfl))) (pe_op op_mulA (pe_ix ix_seq (pv 1) pe_int (fun _ _ => rfl)) (pe_ix ix_seq (pv 0) pe_int (fun _ _ => rfl)))) (pa_cons (pe_op op_mulA (pe_ix ix_seq (pv 0) pe_int (fun _ _ => rfl)) (pe_ix ix_seq (pv 1) pe_int (fun _ _ => rfl))) pa_nil))))), fun G0 H0 ds Q h => ?_⟩), hg, F.kp, F.binds fun _ _ _ _ _ _ us hl => match us, hl with | [_, _], _ => rfl⟩
  try dsimp only [cxOf, Cx.nox, Cx.wish]
  obtain ⟨p, q, rfl, hp, hq, k⟩ := h
  change DS _ _ [_, _] _
  walk_at "dd"
  refine ⟨_, _, rfl, dd_pos p q, dd_small hp hq, ?_⟩
  rw [rat_plus]
  exact k
theorem ok_law_less (T : Txt K mg CL CC CB) (D : Def K mg "_law_less" s_law_less) (C_law_ratio : Cal P w K mg base "_law_ratio" 2 ["_law_top", "_law_bottom"] (spD K p_law_ratio))  :
    Cal P w K mg base "_law_less" 3 ["_law_one", "_law_other"] (spD K p_law_less) := by
  obtain ⟨f, fd, F, hg⟩ := D
  refine ⟨f, fd, ok_D (k := 2) F sc_law_less (fun ds Q h => len_law_less h) (fun cdv A outer s H E hr => ⟨_, (pss_one (ps_ret (pe_cal C_law_ratio hr (by decide) rfl (pa_cons (pe_op op_sub (pe_op op_mulA (pe_ix ix_seq (pv 0) pe_int (fun _ _ => rfl)) (pe_ix ix_seq (pv 1) pe_int (fun _ _ => rfl))) (pe_op op_mulA (pe_ix ix_seq (pv 1) pe_int (fun _ _ => rfl)) (pe_ix ix_seq (pv 0) pe_int (fun _ _ => rfl)))) (pa_cons (pe_op op_mulA (pe_ix ix_seq (pv 0) pe_int (fun _ _ => rfl)) (pe_ix ix_seq (pv 1) pe_int (fun _ _ => rfl))) pa_nil))))), fun G0 H0 ds Q h => ?_⟩), hg, F.kp, F.binds fun _ _ _ _ _ _ us hl => match us, hl with | [_, _], _ => rfl⟩
  try dsimp only [cxOf, Cx.nox, Cx.wish]
  obtain ⟨p, q, rfl, hp, hq, k⟩ := h
  change DS _ _ [_, _] _
  walk_at "dd"
  refine ⟨_, _, rfl, dd_pos p q, dd_small hp hq, ?_⟩
  rw [rat_minus]
  exact k
theorem ok_law_times (T : Txt K mg CL CC CB) (D : Def K mg "_law_times" s_law_times) (C_law_ratio : Cal P w K mg base "_law_ratio" 2 ["_law_top", "_law_bottom"] (spD K p_law_ratio))  :
    Cal P w K mg base "_law_times" 3 ["_law_one", "_law_other"] (spD K p_law_times) := by
  obtain ⟨f, fd, F, hg⟩ := D
  refine ⟨f, fd, ok_D (k := 2) F sc_law_times (fun ds Q h => len_law_times h) (fun cdv A outer s H E hr => ⟨_, (pss_one (ps_ret (pe_cal C_law_ratio hr (by decide) rfl (pa_cons (pe_op op_mulA (pe_ix ix_seq (pv 0) pe_int (fun _ _ => rfl)) (pe_ix ix_seq (pv 1) pe_int (fun _ _ => rfl))) (pa_cons (pe_op op_mulA (pe_ix ix_seq (pv 0) pe_int (fun _ _ => rfl)) (pe_ix ix_seq (pv 1) pe_int (fun _ _ => rfl))) pa_nil))))), fun G0 H0 ds Q h => ?_⟩), hg, F.kp, F.binds fun _ _ _ _ _ _ us hl => match us, hl with | [_, _], _ => rfl⟩
  try dsimp only [cxOf, Cx.nox, Cx.wish]
  obtain ⟨p, q, rfl, hp, hq, k⟩ := h
  change DS _ _ [_, _] _
  walk_at "dd"
  refine ⟨_, _, rfl, dd_pos p q, dd_small hp hq, ?_⟩
  rw [rat_times]
  exact k
theorem ok_law_below (T : Txt K mg CL CC CB) (D : Def K mg "_law_below" s_law_below)   :
    Cal P w K mg base "_law_below" 1 ["_law_one", "_law_other"] (spD K p_law_below) := by
  obtain ⟨f, fd, F, hg⟩ := D
  refine ⟨f, fd, ok_D (k := 0) F sc_law_below (fun ds Q h => len_law_below h) (fun cdv A outer s H E hr => ⟨_, (pss_one (ps_ret (pe_cmpR op_lt (pe_op op_mulA (pe_ix ix_seq (pv 0) pe_int (fun _ _ => rfl)) (pe_ix ix_seq (pv 1) pe_int (fun _ _ => rfl))) (pe_op op_mulA (pe_ix ix_seq (pv 1) pe_int (fun _ _ => rfl)) (pe_ix ix_seq (pv 0) pe_int (fun _ _ => rfl))) (nomark _)))), fun G0 H0 ds Q h => ?_⟩), hg, F.kp, F.binds fun _ _ _ _ _ _ us hl => match us, hl with | [_, _], _ => rfl⟩
  try dsimp only [cxOf, Cx.nox, Cx.wish]
  obtain ⟨p, q, rfl, hp, hq, k⟩ := h
  change DS _ _ [_, _] _
  rw [← below_eq] at k
  walk_at "dd"
  exact k
theorem ok_law_size (T : Txt K mg CL CC CB) (D : Def K mg "_law_size" s_law_size)   :
    Cal P w K mg base "_law_size" 1 ["_law_one"] (spD K p_law_size) := by
  obtain ⟨f, fd, F, hg⟩ := D
  refine ⟨f, fd, ok_D (k := 0) F sc_law_size (fun ds Q h => len_law_size h) (fun cdv A outer s H E hr => ⟨_, (pss_one (ps_ret (pe_tup (pa_cons (pe_abs T.bi (pe_ix ix_seq (pv 0) pe_int (fun _ _ => rfl))) (pa_cons (pe_ix ix_seq (pv 0) pe_int (fun _ _ => rfl)) pa_nil))))), fun G0 H0 ds Q h => ?_⟩), hg, F.kp, F.binds fun _ _ _ _ _ _ us hl => match us, hl with | [_], _ => rfl⟩
  try dsimp only [cxOf, Cx.nox, Cx.wish]
  obtain ⟨p, rfl, k⟩ := h
  change DS _ _ [_] _
  rw [abs_rat] at k
  walk_at "dd"
  exact k
theorem ok_law_added (T : Txt K mg CL CC CB) (D : Def K mg "_law_added" s_law_added) (C_law_plus : Cal P w K mg base "_law_plus" 3 ["_law_one", "_law_other"] (spD K p_law_plus))  :
    Cal P w K mg base "_law_added" 4 ["_law_one", "_law_other"] (spD K p_law_added) := by
  obtain ⟨f, fd, F, hg⟩ := D
  refine ⟨f, fd, ok_D (k := 3) F sc_law_added (fun ds Q h => len_law_added h) (fun cdv A outer s H E hr => ⟨_, (pss_cons (ps_if (PW.pt (pw_or (pt_cmpR op_isN (pv 0) pe_non (nomark _)) (pw_or1 (pt_cmpR op_isN (pv 1) pe_non (nomark _))))) (pss_one (ps_ret pe_non)) pss_nil)
    (pss_one (ps_ret (pe_cal C_law_plus hr (by decide) rfl (pa_cons (pv 0) (pa_cons (pv 1) pa_nil)))))), fun G0 H0 ds Q h => ?_⟩), hg, F.kp, F.binds fun _ _ _ _ _ _ us hl => match us, hl with | [_, _], _ => rfl⟩
  try dsimp only [cxOf, Cx.nox, Cx.wish]
  obtain ⟨p, q, rfl, hp, hq, k⟩ := h
  change DS _ _ [_, _] _
  walk_at "dd"
  rw [isNon_bd]
  cases p with
  | none =>
    refine ite_t rfl ?_
    walk_at "dd"
    exact k
  | some p =>
    refine ite_f rfl ?_
    walk_at "dd"
    rw [isNon_bd]
    cases q with
    | none =>
      refine ite_t rfl ?_
      walk_at "dd"
      exact k
    | some q =>
      refine ite_f rfl ?_
      walk_at "dd"
      exact ⟨p, q, rfl, hp p rfl, hq q rfl, k⟩
theorem ok_law_least (T : Txt K mg CL CC CB) (D : Def K mg "_law_least" s_law_least) (C_law_below : Cal P w K mg base "_law_below" 1 ["_law_one", "_law_other"] (spD K p_law_below))  :
    Cal P w K mg base "_law_least" 2 ["_law_one", "_law_other"] (spD K p_law_least) := by
  obtain ⟨f, fd, F, hg⟩ := D
  refine ⟨f, fd, ok_D (k := 1) F sc_law_least (fun ds Q h => len_law_least h) (fun cdv A outer s H E hr => ⟨_, (pss_cons (ps_if (pt_cmpR op_isN (pv 0) pe_non (nomark _)) (pss_one (ps_ret (pv 1))) pss_nil)
    (pss_cons (ps_if (PW.pt (pw_or (pt_cmpR op_isN (pv 1) pe_non (nomark _)) (pw_or1 (pt_tru (pe_cal C_law_below hr (by decide) rfl (pa_cons (pv 0) (pa_cons (pv 1) pa_nil))))))) (pss_one (ps_ret (pv 0))) pss_nil)
    (pss_one (ps_ret (pv 1))))), fun G0 H0 ds Q h => ?_⟩), hg, F.kp, F.binds fun _ _ _ _ _ _ us hl => match us, hl with | [_, _], _ => rfl⟩
  try dsimp only [cxOf, Cx.nox, Cx.wish]
  obtain ⟨p, q, rfl, hp, hq, k⟩ := h
  change DS _ _ [_, _] _
  walk_at "dd"
  rw [isNon_bd]
  cases p with
  | none =>
    refine ite_t rfl ?_
    walk_at "dd"
    exact k
  | some p =>
    refine ite_f rfl ?_
    walk_at "dd"
    rw [isNon_bd]
    cases q with
    | none =>
      refine ite_t rfl ?_
      walk_at "dd"
      exact k
    | some q =>
      refine ite_f rfl ?_
      walk_at "dd"
      refine ⟨p, q, rfl, hp p rfl, hq q rfl, ?_⟩
      walk_at "dd"
      have e : minB (some p) (some q) = some (if p ≤ q then p else q) := rfl
      rw [e] at k
      by_cases h : p < q
      · rw [if_pos (decide_eq_true h)]
        rw [if_pos (Rat.le_of_lt h)] at k
        walk_at "dd"
        exact k
      · rw [if_neg (fun z => h (of_decide_eq_true z))]
        walk_at "dd"
        split at k
        · have e : p = q := by grind
          rw [e] at k
          exact k
        · exact k
theorem ok_law_passes (T : Txt K mg CL CC CB) (D : Def K mg "_law_passes" s_law_passes) (C_law_below : Cal P w K mg base "_law_below" 1 ["_law_one", "_law_other"] (spD K p_law_below))  :
    Cal P w K mg base "_law_passes" 2 ["_law_one", "_law_other"] (spD K p_law_passes) := by
  obtain ⟨f, fd, F, hg⟩ := D
  refine ⟨f, fd, ok_D (k := 1) F sc_law_passes (fun ds Q h => len_law_passes h) (fun cdv A outer s H E hr => ⟨_, (pss_one (ps_ret (pe_and (pe_cmpR op_notN (pv 1) pe_non (nomark _)) (pe_one (pe_or (pe_cmpR op_isN (pv 0) pe_non (nomark _)) (pe_one (pe_cal C_law_below hr (by decide) rfl (pa_cons (pv 1) (pa_cons (pv 0) pa_nil))))))))), fun G0 H0 ds Q h => ?_⟩), hg, F.kp, F.binds fun _ _ _ _ _ _ us hl => match us, hl with | [_, _], _ => rfl⟩
  try dsimp only [cxOf, Cx.nox, Cx.wish]
  obtain ⟨p, q, rfl, hp, hq, k⟩ := h
  change DS _ _ [_, _] _
  walk_at "dd"
  rw [isNon_bd]
  cases q with
  | none =>
    refine ite_f rfl ?_
    cases p <;> exact k
  | some q =>
    refine ite_t rfl ?_
    walk_at "dd"
    rw [isNon_bd]
    cases p with
    | none =>
      refine ite_t rfl ?_
      exact k
    | some p =>
      refine ite_f rfl ?_
      walk_at "dd"
      refine ⟨q, p, rfl, hq q rfl, hp p rfl, ?_⟩
      exact k
theorem ok_law_minus_bound (T : Txt K mg CL CC CB) (D : Def K mg "_law_minus_bound" s_law_minus_bound)   :
    Cal P w K mg base "_law_minus_bound" 1 ["_law_one"] (spD K p_law_minus_bound) := by
  obtain ⟨f, fd, F, hg⟩ := D
  refine ⟨f, fd, ok_D (k := 0) F sc_law_minus_bound (fun ds Q h => len_law_minus_bound h) (fun cdv A outer s H E hr => ⟨_, (pss_one (ps_ret (pe_ifExp (pt_cmpR op_isN (pv 0) pe_non (nomark _)) pe_non (pe_tup (pa_cons (pe_un un_neg (pe_ix ix_seq (pv 0) pe_int (fun _ _ => rfl))) (pa_cons (pe_ix ix_seq (pv 0) pe_int (fun _ _ => rfl)) pa_nil)))))), fun G0 H0 ds Q h => ?_⟩), hg, F.kp, F.binds fun _ _ _ _ _ _ us hl => match us, hl with | [_], _ => rfl⟩
  try dsimp only [cxOf, Cx.nox, Cx.wish]
  obtain ⟨p, rfl, k⟩ := h
  change DS _ _ [_] _
  walk_at "dd"
  rw [isNon_bd]
  cases p with
  | none =>
    refine ite_t rfl ?_
    walk_at "dd"
    exact k
  | some p =>
    refine ite_f rfl ?_
    walk_at "dd"
    exact k
theorem ok_law_higher (T : Txt K mg CL CC CB) (D : Def K mg "_law_higher" s_law_higher) (C_law_below : Cal P w K mg base "_law_below" 1 ["_law_one", "_law_other"] (spD K p_law_below))  :
    Cal P w K mg base "_law_higher" 2 ["_law_one", "_law_other"] (spD K p_law_higher) := by
  obtain ⟨f, fd, F, hg⟩ := D
  refine ⟨f, fd, ok_D (k := 1) F sc_law_higher (fun ds Q h => len_law_higher h) (fun cdv A outer s H E hr => ⟨_, (pss_cons (ps_if (pt_cmpR op_isN (pv 0) pe_non (nomark _)) (pss_one (ps_ret (pv 1))) pss_nil)
    (pss_cons (ps_if (PW.pt (pw_or (pt_cmpR op_isN (pv 1) pe_non (nomark _)) (pw_or1 (pt_tru (pe_cal C_law_below hr (by decide) rfl (pa_cons (pv 1) (pa_cons (pv 0) pa_nil))))))) (pss_one (ps_ret (pv 0))) pss_nil)
    (pss_one (ps_ret (pv 1))))), fun G0 H0 ds Q h => ?_⟩), hg, F.kp, F.binds fun _ _ _ _ _ _ us hl => match us, hl with | [_, _], _ => rfl⟩
  try dsimp only [cxOf, Cx.nox, Cx.wish]
  obtain ⟨p, q, rfl, hp, hq, k⟩ := h
  change DS _ _ [_, _] _
  walk_at "dd"
  rw [isNon_bd]
  cases p with
  | none =>
    refine ite_t rfl ?_
    walk_at "dd"
    exact k
  | some p =>
    refine ite_f rfl ?_
    walk_at "dd"
    rw [isNon_bd]
    cases q with
    | none =>
      refine ite_t rfl ?_
      walk_at "dd"
      exact k
    | some q =>
      refine ite_f rfl ?_
      walk_at "dd"
      refine ⟨q, p, rfl, hq q rfl, hp p rfl, ?_⟩
      walk_at "dd"
      have e : maxB (some p) (some q) = some (if q < p then p else q) := rfl
      rw [e] at k
      by_cases h : q < p
      · rw [if_pos (decide_eq_true h)]
        rw [if_pos h] at k
        walk_at "dd"
        exact k
      · rw [if_neg (fun z => h (of_decide_eq_true z))]
        rw [if_neg h] at k
        walk_at "dd"
        exact k
end
end K20
namespace K20
open PySem L2
open Evl (Ex)
open PyProof.Rows (envOfC)
/-! F3: is_whole (with its defaults), is_ratio, is_bound, sections. -/
def oi : Option Int → Dt
  | none => .non
  | some i => .int i
def loOk (i : Int) : Option Int → Bool
  | none => true
  | some l => decide (l ≤ i)
def hiOk (i : Int) : Option Int → Bool
  | none => true
  | some h => decide (i ≤ h)
def isWh : Dt → Option Int → Option Int → Bool
  | .int i, lo, hi => loOk i lo && hiOk i hi
  | _, _, _ => false
def p_is_whole (ds : List Dt) (Q : Dt → Prop) : Prop := ∃ (d : Dt) (lo hi : Option Int), ds = [d, oi lo, oi hi] ∧ shD d ∧ Q (.bl (isWh d lo hi))
theorem len_is_whole {ds : List Dt} {Q : Dt → Prop} (h : p_is_whole ds Q) : ds.length = 3 := by
  obtain ⟨d, lo, hi, rfl, _⟩ := h; rfl
def DefD (K : PySem.W.Frag) (mg : Str → Option Value) (x : Str) (st : Stmt) (dvs : List V) : Prop := ∃ f fd, FunD K x x (defArgs st) (defBody st) (defScope st) dvs [] f fd ∧ mg x = some (.ref f)
def CalW (P : Program) (w : World) (K : PySem.W.Frag) (mg : Str → Option Value) (base : Heap) : Prop :=
  ∃ f fd, FnOk P w K mg base CX0 1 f fd ["thing", "low", "high"] (spD K p_is_whole) ∧ mg "is_whole" = some (.ref f) ∧ PySem.W.keepIn K (.ref f) = true ∧
    (∃ ds, Vals [.non, .non] ds ∧ Binds K fd ["thing", "low", "high"] ds) ∧ (∃ ds, Vals [.non] ds ∧ Binds K fd ["thing", "low", "high"] ds) ∧ Binds K fd ["thing", "low", "high"] []
section
variable {X : Cx} {k : Nat} {p pos : Pos} {a b d : PySem.Expr} {t : TA}
theorem pe_cal1 (C : CalW X.prog X.w X.K X.mg X.base) (hr : Room k X.A) (hj : 1 ≤ k) (hg : Gl X "is_whole") (ha : PA X [a] t) (he : starEach (a :: []) X.env = (false, eval a X.env) :: starEach [] X.env := by rfl) :
    PE X (.Call (.Name "is_whole" p) [a] [] pos) (tCall (spD X.K p_is_whole) [.non, .non] E0 t) := by
  obtain ⟨f, fd, F, hm, hk, ⟨ds, hv, hb⟩, _⟩ := C
  exact pe_call F (hr.mono hj) hg hm hk hb hv pass0 ha (by decide) he rfl
theorem pe_cal2 (C : CalW X.prog X.w X.K X.mg X.base) (hr : Room k X.A) (hj : 1 ≤ k) (hg : Gl X "is_whole") (ha : PA X [a, b] t) (he : starEach (a :: [b]) X.env = (false, eval a X.env) :: starEach [b] X.env := by rfl) (hpl : (backTo pos (starEach [b] X.env)).any (·.1) = false := by rfl) :
    PE X (.Call (.Name "is_whole" p) [a, b] [] pos) (tCall (spD X.K p_is_whole) [.non] E0 t) := by
  obtain ⟨f, fd, F, hm, hk, _, ⟨ds, hv, hb⟩, _⟩ := C
  exact pe_call F (hr.mono hj) hg hm hk hb hv pass0 ha (by decide) he hpl
theorem pe_cal3 (C : CalW X.prog X.w X.K X.mg X.base) (hr : Room k X.A) (hj : 1 ≤ k) (hg : Gl X "is_whole") (ha : PA X [a, b, d] t) (he : starEach (a :: [b, d]) X.env = (false, eval a X.env) :: starEach [b, d] X.env := by rfl) (hpl : (backTo pos (starEach [b, d] X.env)).any (·.1) = false := by rfl) :
    PE X (.Call (.Name "is_whole" p) [a, b, d] [] pos) (tCall (spD X.K p_is_whole) [] E0 t) := by
  obtain ⟨f, fd, F, hm, hk, _, _, hb⟩ := C
  exact pe_call F (hr.mono hj) hg hm hk hb .nil pass0 ha (by decide) he hpl
end
theorem ok_DD {P : Program} {w : World} {K : PySem.W.Frag} {mg : Str → Option Value} {base : Heap} {x qual : Str} {st : Stmt} {f : Addr} {fd : FuncData} {N ps : List Str} {k : Nat} {dvs : List V} {pre : List Dt → (Dt → Prop) → Prop} (F : FunD K x qual (defArgs st) (defBody st) (defScope st) dvs [] f fd) (S : FnScope N ps (defScope st)) (len : ∀ ds Q, pre ds Q → ds.length = ps.length)
    (hbody : ∀ (cdv : Value) (A : Around) (outer : List PySem.Env) (s : Shared) (H : Hp) (E : XK), Room k (A.deeper (envOfC qual (defScope st) s.heap.objs.size f cdv)) →
      ∃ t, PSs (cxOf CX0 P w K mg base N qual (defScope st) f cdv A outer s H E).nox (defBody st) t ∧ ∀ (G0 H0 : Hp) (ds : List Dt) (Q : Dt → Prop), pre ds Q → DS ⟨K, G0, H0, none⟩ t (start9 N ds) { nx := fun _ => Q .non, rt := fun _ => Q }) :
    FnOk P w K mg base CX0 (k + 1) f fd ps (spD K pre) :=
  F.ok S (fun vs H Q E ⟨G, ds, R, e, r, p, q⟩ => by rw [r.length]; exact len ds R p) fun cdv A outer s H vs Q E hr ⟨G, ds, R, e, r, p, q⟩ => by
    obtain ⟨t, h1, h2⟩ := hbody cdv A outer s H E hr
    refine ⟨t, h1.nox, h2 G H ds R p (L2.start N vs) G H (env_start e r) _ (fun σ' G' H' ρ' _ I' z => ?_) (fun v d σ' G' H' ρ' I' rv z => ?_) (fun σ' G' H' ρ' _ _ z => z.elim) (fun σ' G' H' ρ' _ _ z => z.elim)⟩
    · exact q _ _ G' H' I'.gd.g0 I'.gd.gh (fun a h1 h2 => ⟨(I'.gd.fr a h1 h2).1, (I'.gd.fr a h1 h2).2 fun z => by cases z⟩) .non z
    · exact q _ _ G' H' I'.gd.g0 I'.gd.gh (fun a h1 h2 => ⟨(I'.gd.fr a h1 h2).1, (I'.gd.fr a h1 h2).2 fun z => by cases z⟩) rv z
def isRt : Dt → Bool
  | .tup [.int a, .int b] => decide (1 ≤ b) && (Int.gcd a b == 1)
  | _ => false
def p_is_ratio (ds : List Dt) (Q : Dt → Prop) : Prop := ∃ d : Dt, ds = [d] ∧ shD d ∧ Q (.bl (isRt d))
theorem len_is_ratio {ds : List Dt} {Q : Dt → Prop} (h : p_is_ratio ds Q) : ds.length = 1 := by
  obtain ⟨d, rfl, _⟩ := h; rfl
abbrev p_law_is_ratio := p_is_ratio
theorem len_law_is_ratio {ds : List Dt} {Q : Dt → Prop} (h : p_law_is_ratio ds Q) : ds.length = 1 := len_is_ratio h
def p_is_section (ds : List Dt) (Q : Dt → Prop) : Prop := ∃ (n : Int) (d : Dt), ds = [.int n, d] ∧ shD d ∧ Q (.bl (isWh d (some 0) (some (n - 1))))
theorem len_is_section {ds : List Dt} {Q : Dt → Prop} (h : p_is_section ds Q) : ds.length = 2 := by
  obtain ⟨n, d, rfl, _⟩ := h; rfl
def p_is_bound (ds : List Dt) (Q : Dt → Prop) : Prop := ∃ o : Option Rat, ds = [bd o] ∧ NN o ∧ Q (.bl true)
theorem len_is_bound {ds : List Dt} {Q : Dt → Prop} (h : p_is_bound ds Q) : ds.length = 1 := by
  obtain ⟨d, rfl, _⟩ := h; rfl
theorem isRt_rat (q : Rat) : isRt (rat q) = true := by
  show (decide ((1 : Int) ≤ (q.den : Int)) && (Int.gcd q.num q.den == 1)) = true
  have h1 : (1 : Int) ≤ (q.den : Int) := by have := q.den_pos; omega
  have h2 : Int.gcd q.num q.den = 1 := q.reduced
  rw [decide_eq_true h1, h2]
  rfl
local macro_rules | `(tactic| walk_at "d1") => `(tactic| first
  | with_reducible refine ds_seq ?_
  | with_reducible refine ds_ret ?_
  | with_reducible refine ds_retN ?_
  | with_reducible refine ds_next ?_
  | with_reducible refine ds_set rfl ?_
  | with_reducible refine ds_asg ?_
  | with_reducible refine ds_if ?_
  | with_reducible refine ds_par rfl rfl ?_
  | with_reducible refine de_var rfl ?_
  | with_reducible refine de_int ?_
  | with_reducible refine de_bl ?_
  | with_reducible refine de_non ?_
  | with_reducible refine de_str ?_
  | with_reducible refine de_add ?_
  | with_reducible refine de_mul ?_
  | with_reducible refine de_ix ?_
  | with_reducible refine de_call ?_
  | with_reducible refine de_callH rfl ?_
  | with_reducible refine de_callD (dds := [.non, .non]) (fun _ => .cons .non (.cons .non .nil)) ?_
  | with_reducible refine de_callD (dds := [.non]) (fun _ => .cons .non .nil) ?_
  | with_reducible refine de_chainI ?_
  | with_reducible refine de_opI0 ?_
  | with_reducible refine de_opI ?_
  | with_reducible refine de_opB0 ?_
  | with_reducible refine de_isN ?_
  | with_reducible refine de_notN ?_
  | with_reducible refine de_eqD ?_
  | with_reducible refine de_neD ?_
  | with_reducible refine de_neg ?_
  | with_reducible refine de_len ?_
  | with_reducible refine de_int1 ?_
  | with_reducible refine de_abs ?_
  | with_reducible refine de_min2 ?_
  | with_reducible refine de_max2 ?_
  | with_reducible refine de_tup ?_
  | with_reducible refine de_if ?_
  | with_reducible refine de_isBl ?_
  | with_reducible refine de_isIn ?_
  | with_reducible refine de_isTu ?_
  | with_reducible refine de_isLT ?_
  | with_reducible refine de_andV ?_
  | with_reducible refine de_orV ?_
  | with_reducible refine de_notT ?_
  | with_reducible refine de_fld ?_
  | with_reducible refine de_slice ?_
  | with_reducible refine do_none ?_
  | with_reducible refine do_some ?_
  | with_reducible refine dt_test ?_
  | with_reducible refine dt_tru ?_
  | with_reducible refine dt_and ?_
  | with_reducible refine dt_or ?_
  | with_reducible refine dt_not ?_
  | with_reducible refine da_cons ?_
  | with_reducible refine da_nil ?_
  | with_reducible refine de_lst ?_)
local macro_rules | `(tactic| walk_at "d2") => `(tactic| first
  | walk_at "d1"
  | with_reducible refine iteT ?_
  | with_reducible refine iteF ?_
  | (with_reducible refine Exists.intro _ (Exists.intro _ (And.intro rfl (And.intro rfl ?_))))
  | (with_reducible refine Exists.intro _ (And.intro rfl ?_))
  | (with_reducible refine .inl (Exists.intro _ (Exists.intro _ (And.intro rfl (And.intro rfl ?_)))))
  | (refine ⟨_, _, _, .inr rfl, rfl, rfl, ?_⟩)
  | (refine ⟨Nat.le_of_ble_eq_true rfl, ?_⟩)
  | (with_reducible refine And.intro rfl ?_)
  | (with_reducible refine And.intro (by walk_at "mul") ?_)
  | (with_reducible refine And.intro (by walk_at "shd") ?_))
local macro_rules | `(tactic| walk_at "dd") => `(tactic| (repeat walk_at "d2"))
local macro_rules | `(tactic| walk_at "set") => `(tactic| simp only [List.set_cons_zero, List.set_cons_succ])
local macro_rules | `(tactic| walk_at "mul") => `(tactic| first
  | exact mul_nd (by assumption) (by assumption) | exact mul_nn (by assumption) (by assumption) | exact mul_dd (by assumption) (by assumption))
local macro_rules | `(tactic| walk_at "shd") => `(tactic| first
  | exact shD_int _ | exact shD_non | exact shD_rat _ | exact shD_tupTab _ _ | with_reducible assumption)
section
variable {P : Program} {w : World} {K : PySem.W.Frag} {mg : Str → Option Value} {base : Heap} {CL CC CB : Addr}
theorem ok_is_whole (T : Txt K mg CL CC CB) (D : DefD K mg "is_whole" s_is_whole [.non, .non]) : CalW P w K mg base := by
  obtain ⟨f, fd, F, hg⟩ := D
  have b0 := F.binds1 (ps := ["thing", "low", "high"]) 1 0 (by simp) rfl fun _ _ _ _ _ _ _ us its hl hl2 => match us, its, hl, hl2 with | [_], [_, _], _, _ => ⟨_, rfl, rfl⟩
  have b1 := F.binds1 (ps := ["thing", "low", "high"]) 2 1 (by simp) rfl fun _ _ _ _ _ _ _ us its hl hl2 => match us, its, hl, hl2 with | [_, _], [_, _], _, _ => ⟨_, rfl, rfl⟩
  have b2 := F.binds1 (ps := ["thing", "low", "high"]) 3 2 (by simp) rfl fun _ _ _ _ _ _ _ us its hl hl2 => match us, its, hl, hl2 with | [_, _, _], [_, _], _, _ => ⟨_, rfl, rfl⟩
  have b2' : Binds K fd ["thing", "low", "high"] [] := by
    obtain ⟨ds, hv, hb⟩ := b2
    cases hv
    exact hb
  refine ⟨f, fd, ok_DD (k := 0) F sc_is_whole (fun ds Q h => len_is_whole h) (fun cdv A outer s H E hr => ⟨_,
(pss_cons (ps_if (PW.pt (pw_or (pt_tru (pe_isi T.bi (pv 0) (pe_tyBool T.bi))) (pw_or1 (pt_not (pt_tru (pe_isi T.bi (pv 0) (pe_tyInt T.bi))))))) (pss_one (ps_ret pe_bl)) pss_nil)
    (pss_cons (ps_if (PW.pt (pw_and (pt_cmpR op_notN (pv 1) pe_non (nomark _)) (pw_and1 (pt_cmpR op_lt (pv 0) (pv 1) (nomark _))))) (pss_one (ps_ret pe_bl)) pss_nil)
    (pss_one (ps_ret (pe_or (pe_cmpR op_isN (pv 2) pe_non (nomark _)) (pe_one (pe_cmpR op_le (pv 0) (pv 2) (nomark _))))))))
    , fun G0 H0 ds Q h => ?_⟩), hg, F.kp, b0, b1, b2'⟩
  obtain ⟨d, lo, hi, rfl, hd, k⟩ := h
  change DS _ _ [_, _, _] _
  try dsimp only [cxOf, Cx.nox, Cx.wish]
  walk_at "dd"
  cases d with
  | ob _ _ _ => obtain ⟨n, _, s⟩ := hd; simp [sh] at s
  | scr _ => obtain ⟨n, _, s⟩ := hd; simp [sh] at s
  | bl b =>
    refine ite_t rfl ?_
    walk_at "dd"
    exact k
  | non =>
    refine ite_f rfl ?_
    walk_at "dd"
    refine ite_t rfl ?_
    walk_at "dd"
    exact k
  | str _ =>
    refine ite_f rfl ?_
    walk_at "dd"
    refine ite_t rfl ?_
    walk_at "dd"
    exact k
  | lst _ =>
    refine ite_f rfl ?_
    walk_at "dd"
    refine ite_t rfl ?_
    walk_at "dd"
    exact k
  | tup _ =>
    refine ite_f rfl ?_
    walk_at "dd"
    refine ite_t rfl ?_
    walk_at "dd"
    exact k
  | int i =>
    refine ite_f rfl ?_
    walk_at "dd"
    refine ite_f rfl ?_
    walk_at "dd"
    have fin : isWh (.int i) lo hi = (loOk i lo && hiOk i hi) := rfl
    have rest : loOk i lo = true → if isNon (oi hi) = true then Q (.bl true) else DE (Ctx.mk K G0 H0 none) (tOp (rI0 fun i j => V.bl (decide (i ≤ j))) (tVar 0) (tVar 2)) [Sl.dt (.int i), Sl.dt (oi lo), Sl.dt (oi hi)] fun d => Q d := by
      intro h1
      rw [fin, h1, Bool.true_and] at k
      cases hi with
      | none =>
        refine ite_t rfl ?_
        exact k
      | some h =>
        refine ite_f rfl ?_
        walk_at "dd"
        exact k
    cases lo with
    | none =>
      refine ite_f rfl ?_
      walk_at "dd"
      exact rest rfl
    | some l =>
      refine ite_t rfl ?_
      walk_at "dd"
      by_cases h : i < l
      · refine ite_t (decide_eq_true h) ?_
        walk_at "dd"
        have e : decide (l ≤ i) = false := decide_eq_false (by omega)
        rw [fin, show loOk i (some l) = false from e, Bool.false_and] at k
        exact k
      · refine ite_f (decide_eq_false h) ?_
        walk_at "dd"
        exact rest (decide_eq_true (by omega))
theorem ok_is_section (T : Txt K mg CL CC CB) (D : Def K mg "is_section" s_is_section) (C_is_whole : CalW P w K mg base)  :
    Cal P w K mg base "is_section" 2 ["count", "section"] (spD K p_is_section) := by
  obtain ⟨f, fd, F, hg⟩ := D
  refine ⟨f, fd, ok_D (k := 1) F sc_is_section (fun ds Q h => len_is_section h) (fun cdv A outer s H E hr => ⟨_, (pss_one (ps_ret (pe_cal3 C_is_whole hr (by decide) rfl (pa_cons (pv 1) (pa_cons pe_int (pa_cons (pe_op op_sub (pv 0) pe_int) pa_nil)))))), fun G0 H0 ds Q h => ?_⟩), hg, F.kp, F.binds fun _ _ _ _ _ _ us hl => match us, hl with | [_, _], _ => rfl⟩
  try dsimp only [cxOf, Cx.nox, Cx.wish]
  obtain ⟨n, d, rfl, hd, k⟩ := h
  change DS _ _ [_, _] _
  walk_at "dd"
  exact ⟨d, some 0, some (n - 1), rfl, hd, k⟩
theorem ok_is_ratio (T : Txt K mg CL CC CB) (D : Def K mg "is_ratio" s_is_ratio) (C_shared_divisor : Cal P w K mg base "shared_divisor" 1 ["one", "other"] (spD K p_shared_divisor)) (C_is_whole : CalW P w K mg base)  :
    Cal P w K mg base "is_ratio" 2 ["thing"] (spD K p_is_ratio) := by
  obtain ⟨f, fd, F, hg⟩ := D
  refine ⟨f, fd, ok_D (k := 1) F sc_is_ratio (fun ds Q h => len_is_ratio h) (fun cdv A outer s H E hr => ⟨_, (pss_cons (ps_if (PW.pt (pw_or (pt_not (pt_tru (pe_isi T.bi (pv 0) (pe_tyTuple T.bi)))) (pw_or1 (pt_cmpR (op_neD hr.units) (pe_len T.bi (pv 0)) pe_int (nomark _))))) (pss_one (ps_ret pe_bl)) pss_nil)
    (pss_cons (ps_if (PW.pt (pw_or (pt_not (pt_tru (pe_cal1 C_is_whole hr (by decide) rfl (pa_cons (pe_ix ix_seq (pv 0) pe_int (fun _ _ => rfl)) pa_nil)))) (pw_or1 (pt_not (pt_tru (pe_cal2 C_is_whole hr (by decide) rfl (pa_cons (pe_ix ix_seq (pv 0) pe_int (fun _ _ => rfl)) (pa_cons pe_int pa_nil)))))))) (pss_one (ps_ret pe_bl)) pss_nil)
    (pss_one (ps_ret (pe_cmpR (op_eqD hr.units) (pe_cal C_shared_divisor hr (by decide) rfl (pa_cons (pe_ix ix_seq (pv 0) pe_int (fun _ _ => rfl)) (pa_cons (pe_ix ix_seq (pv 0) pe_int (fun _ _ => rfl)) pa_nil))) pe_int (nomark _)))))), fun G0 H0 ds Q h => ?_⟩), hg, F.kp, F.binds fun _ _ _ _ _ _ us hl => match us, hl with | [_], _ => rfl⟩
  try dsimp only [cxOf, Cx.nox, Cx.wish]
  obtain ⟨d, rfl, hd, k⟩ := h
  change DS _ _ [_] _
  walk_at "dd"
  rcases (show isTu d = false ∨ ∃ xs, d = .tup xs by cases d <;> first | exact .inl rfl | exact .inr ⟨_, rfl⟩) with e | ⟨xs, rfl⟩
  · refine ite_t (by rw [e]; rfl) ?_
    walk_at "dd"
    have : isRt d = false := by cases d <;> first | rfl | cases e
    rw [this] at k
    exact k
  · refine ite_f rfl ?_
    walk_at "dd"
    refine .inl ⟨xs, .inr rfl, ?_⟩
    walk_at "dd"
    rw [deq_int]
    rcases (show xs.length ≠ 2 ∨ ∃ a b, xs = [a, b] by match xs with | [] => exact .inl (by simp) | [_] => exact .inl (by simp) | [a, b] => exact .inr ⟨a, b, rfl⟩ | _ :: _ :: _ :: _ => exact .inl (by simp)) with e | ⟨a, b, rfl⟩
    · refine ite_t (by simp; omega) ?_
      walk_at "dd"
      have : isRt (.tup xs) = false := by unfold isRt; split; · rename_i h; cases h; exact absurd rfl e
                                          · rfl
      rw [this] at k
      exact k
    · refine ite_f rfl ?_
      have ha : shD a := shD_tup_mem hd (by simp)
      have hb : shD b := shD_tup_mem hd (by simp)
      walk_at "dd"
      refine ⟨a, none, none, rfl, ha, ?_⟩
      refine ⟨_, rfl, ?_⟩
      rcases (show (isWh a none none = false ∧ isRt (.tup [a, b]) = false) ∨ ∃ i, a = .int i by cases a <;> first | exact .inl ⟨rfl, rfl⟩ | exact .inr ⟨_, rfl⟩) with ⟨e, e2⟩ | ⟨i, rfl⟩
      · refine ite_t (by rw [e]; rfl) ?_
        walk_at "dd"
        rw [e2] at k
        exact k
      · refine ite_f rfl ?_
        walk_at "dd"
        refine ⟨b, some 1, none, rfl, hb, ?_⟩
        refine ⟨_, rfl, ?_⟩
        rcases (show (isWh b (some 1) none = false ∧ isRt (.tup [.int i, b]) = false) ∨ ∃ j, b = .int j ∧ 1 ≤ j by
          cases b with
          | int j =>
            by_cases h : 1 ≤ j
            · exact .inr ⟨j, rfl, h⟩
            · exact .inl ⟨by show (decide (1 ≤ j) && true) = false; rw [decide_eq_false h]; rfl, by show (decide (1 ≤ j) && _) = false; rw [decide_eq_false h]; rfl⟩
          | _ => exact .inl ⟨rfl, rfl⟩) with ⟨e, e2⟩ | ⟨j, rfl, hj⟩
        · refine ite_t (by rw [e]; rfl) ?_
          walk_at "dd"
          rw [e2] at k
          exact k
        · refine ite_f (by show (!(decide (1 ≤ j) && true)) = false; rw [decide_eq_true hj]; rfl) ?_
          walk_at "dd"
          refine ⟨_, _, rfl, ?_⟩
          walk_at "dd"
          rw [deq_int]
          have : isRt (.tup [.int i, .int j]) = (((Int.gcd i j : Nat) : Int) == 1) := by
            show (decide (1 ≤ j) && (Int.gcd i j == 1)) = _
            rw [decide_eq_true hj, Bool.true_and]
            by_cases h : Int.gcd i j = 1
            · rw [h]; rfl
            · rw [beq_eq_false_iff_ne.mpr h, beq_eq_false_iff_ne.mpr (by omega)]
          rw [this] at k
          exact k
theorem ok_is_bound (T : Txt K mg CL CC CB) (D : Def K mg "is_bound" s_is_bound) (C_is_ratio : Cal P w K mg base "is_ratio" 2 ["thing"] (spD K p_is_ratio))  :
    Cal P w K mg base "is_bound" 3 ["thing"] (spD K p_is_bound) := by
  obtain ⟨f, fd, F, hg⟩ := D
  refine ⟨f, fd, ok_D (k := 2) F sc_is_bound (fun ds Q h => len_is_bound h) (fun cdv A outer s H E hr => ⟨_, (pss_one (ps_ret (pe_or (pe_cmpR op_isN (pv 0) pe_non (nomark _)) (pe_one (pe_and (pe_cal C_is_ratio hr (by decide) rfl (pa_cons (pv 0) pa_nil)) (pe_one (pe_cmpR op_ge (pe_ix ix_seq (pv 0) pe_int (fun _ _ => rfl)) pe_int (nomark _)))))))), fun G0 H0 ds Q h => ?_⟩), hg, F.kp, F.binds fun _ _ _ _ _ _ us hl => match us, hl with | [_], _ => rfl⟩
  try dsimp only [cxOf, Cx.nox, Cx.wish]
  obtain ⟨o, rfl, hd, k⟩ := h
  change DS _ _ [_] _
  walk_at "dd"
  cases o with
  | none =>
    refine ite_t rfl ?_
    exact k
  | some q =>
    refine ite_f rfl ?_
    walk_at "dd"
    refine ⟨rat q, rfl, shD_rat q, ?_⟩
    rw [isRt_rat]
    walk_at "dd"
    have : decide (0 ≤ q.num) = true := decide_eq_true (Rat.num_nonneg.mpr hd)
    rw [this]
    exact k
theorem ok_law_is_ratio (T : Txt K mg CL CC CB) (D : Def K mg "_law_is_ratio" s_law_is_ratio) (C_law_gcd : Cal P w K mg base "_law_gcd" 1 ["_law_one", "_law_other"] (spD K p_law_gcd))  :
    Cal P w K mg base "_law_is_ratio" 2 ["_law_thing"] (spD K p_law_is_ratio) := by
  obtain ⟨f, fd, F, hg⟩ := D
  refine ⟨f, fd, ok_D (k := 1) F sc_law_is_ratio (fun ds Q h => len_law_is_ratio h) (fun cdv A outer s H E hr => ⟨_, (pss_cons (ps_if (PW.pt (pw_or (pt_not (pt_tru (pe_isi T.bi (pv 0) (pe_tyTuple T.bi)))) (pw_or1 (pt_cmpR (op_neD hr.units) (pe_len T.bi (pv 0)) pe_int (nomark _))))) (pss_one (ps_ret pe_bl)) pss_nil)
    (pss_cons (ps_for PassesOwn.never rfl (pi_tup (pv 0)) (pg_name (i := 1) sc_law_is_ratio.nd rfl (Or.inl rfl)) (pss_one (ps_if (PW.pt (pw_or (pt_tru (pe_isi T.bi (pv 1) (pe_tyBool T.bi))) (pw_or1 (pt_not (pt_tru (pe_isi T.bi (pv 1) (pe_tyInt T.bi))))))) (pss_one (ps_ret pe_bl)) pss_nil)))
    (pss_one (ps_ret (pe_and (pe_cmpR op_gt (pe_ix ix_seq (pv 0) pe_int (fun _ _ => rfl)) pe_int (nomark _)) (pe_one (pe_cmpR (op_eqD hr.units) (pe_cal C_law_gcd hr (by decide) rfl (pa_cons (pe_ix ix_seq (pv 0) pe_int (fun _ _ => rfl)) (pa_cons (pe_ix ix_seq (pv 0) pe_int (fun _ _ => rfl)) pa_nil))) pe_int (nomark _)))))))), fun G0 H0 ds Q h => ?_⟩), hg, F.kp, F.binds fun _ _ _ _ _ _ us hl => match us, hl with | [_], _ => rfl⟩
  try dsimp only [cxOf, Cx.nox, Cx.wish]
  obtain ⟨d, rfl, hd, k⟩ := h
  change DS _ _ [_, .no] _
  walk_at "dd"
  rcases (show isTu d = false ∨ ∃ xs, d = .tup xs by cases d <;> first | exact .inl rfl | exact .inr ⟨_, rfl⟩) with e | ⟨xs, rfl⟩
  · refine ite_t (by rw [e]; rfl) ?_
    walk_at "dd"
    have : isRt d = false := by cases d <;> first | rfl | cases e
    rw [this] at k
    exact k
  · refine ite_f rfl ?_
    walk_at "dd"
    refine .inl ⟨xs, .inr rfl, ?_⟩
    walk_at "dd"
    rw [deq_int]
    rcases (show xs.length ≠ 2 ∨ ∃ a b, xs = [a, b] by match xs with | [] => exact .inl (by simp) | [_] => exact .inl (by simp) | [a, b] => exact .inr ⟨a, b, rfl⟩ | _ :: _ :: _ :: _ => exact .inl (by simp)) with e | ⟨a, b, rfl⟩
    · refine ite_t (by simp; omega) ?_
      walk_at "dd"
      have : isRt (.tup xs) = false := by unfold isRt; split; · rename_i h; cases h; exact absurd rfl e
                                          · rfl
      rw [this] at k
      exact k
    · refine ite_f rfl ?_
      have hm : ∀ x ∈ [a, b], shD x := fun x hx => shD_tup_mem hd hx
      have part1 : ∀ x : Dt, (∃ i, x = .int i) ∨ (isRt (.tup [x, b]) = false ∧ (isBl x = true ∨ isIn x = false)) := by
        intro x
        cases x <;> first | exact .inl ⟨_, rfl⟩ | exact .inr ⟨rfl, .inl rfl⟩ | exact .inr ⟨rfl, .inr rfl⟩
      have part2 : ∀ x : Dt, (∃ i, x = .int i) ∨ (isRt (.tup [a, x]) = false ∧ (isBl x = true ∨ isIn x = false)) := by
        intro x
        cases x <;> cases a <;> first | exact .inl ⟨_, rfl⟩ | exact .inr ⟨rfl, .inl rfl⟩ | exact .inr ⟨rfl, .inr rfl⟩
      have part : ∀ x ∈ [a, b], (∃ i, x = .int i) ∨ (isRt (.tup [a, b]) = false ∧ (isBl x = true ∨ isIn x = false)) := by
        intro x hx
        rcases List.mem_cons.mp hx with rfl | hx
        · exact part1 x
        · obtain rfl : x = b := by simpa using hx
          exact part2 x
      walk_at "dd"
      refine ds_forT (fun xs i ρ => ∃ s, ρ = [.dt (.tup [a, b]), s] ∧ ∀ j x, j < i → xs[j]? = some x → ∃ n, x = .int n) (de_var rfl ⟨[a, b], rfl, ⟨.no, rfl, fun j x h => absurd h (Nat.not_lt_zero j)⟩, ?_, ?_⟩)
      · rintro i x ρ hx ⟨s, rfl, hp⟩
        have hxm : x ∈ [a, b] := List.mem_of_getElem? hx
        refine dg_name0 rfl ?_
        walk_at "set"
        have hsx := hm x hxm
        walk_at "dd"
        rcases part x hxm with ⟨n, rfl⟩ | ⟨e, e2⟩
        · refine ite_f rfl ?_
          walk_at "dd"
          refine ite_f rfl ?_
          walk_at "dd"
          intro j y hj hy
          by_cases h : j < i
          · exact hp j y h hy
          · have : j = i := by omega
            subst this
            rw [hx] at hy
            cases hy
            exact ⟨n, rfl⟩
        · rw [e] at k
          rcases e2 with e2 | e2
          · refine ite_t e2 ?_
            walk_at "dd"
            exact k
          · cases e3 : isBl x with
            | true =>
              walk_at "dd"
              exact k
            | false =>
              walk_at "dd"
              refine ite_t (by rw [e2]; rfl) ?_
              walk_at "dd"
              exact k
      · rintro ρ ⟨s, rfl, hp⟩
        obtain ⟨i, rfl⟩ := hp 0 a (by simp) rfl
        obtain ⟨j, rfl⟩ := hp 1 b (by simp) rfl
        walk_at "dd"
        by_cases hj : 0 < j
        · refine ite_t (decide_eq_true hj) ?_
          walk_at "dd"
          refine ⟨_, _, rfl, ?_⟩
          walk_at "dd"
          rw [deq_int]
          have : isRt (.tup [.int i, .int j]) = (((Int.gcd i j : Nat) : Int) == 1) := by
            show (decide (1 ≤ j) && (Int.gcd i j == 1)) = _
            rw [decide_eq_true (by omega : 1 ≤ j), Bool.true_and]
            by_cases h : Int.gcd i j = 1
            · rw [h]; rfl
            · rw [beq_eq_false_iff_ne.mpr h, beq_eq_false_iff_ne.mpr (by omega)]
          rw [this] at k
          exact k
        · refine ite_f (decide_eq_false hj) ?_
          have : isRt (.tup [.int i, .int j]) = false := by
            show (decide (1 ≤ j) && (Int.gcd i j == 1)) = false
            rw [decide_eq_false (by omega)]
            rfl
          rw [this] at k
          exact k
end
end K20
namespace K20
open PySem L2
open Evl (Ex)
open PyProof.Rows (envOfC)
/-! F4: rows led along, distances. -/
structure Gr (D : Nat) : Prop where
  pos : 0 < D
  lt : D < 2 ^ 900
theorem Gr.sm {D c : Nat} {o : Option Rat} (g : Gr D) (h : NiB D c o) (hc : c ≤ 1000000) : SmB o := fun q e => (h q e).sm g.pos g.lt hc
def p_led_along (ds : List Dt) (Q : Dt → Prop) : Prop := ∃ (s0 : Dt) (n : Nat) (s st : Nat → Option Rat) (D c : Nat), ds = [s0, .tup (tab (n - 1) st)] ∧ isSeq s0 (tab n s) ∧ 1 ≤ n ∧ n ≤ 24 ∧ Gr D ∧ NiF D c s ∧ NiF D 1 st ∧ c ≤ 1000 ∧ NNs st ∧ Q (.lst (tab n (ledF n s st)))
theorem len_led_along {ds : List Dt} {Q : Dt → Prop} (h : p_led_along ds Q) : ds.length = 2 := by
  obtain ⟨_, _, _, _, _, _, rfl, _⟩ := h; rfl
/-- the sum of the steps from i to j -/
def p_distance_between (ds : List Dt) (Q : Dt → Prop) : Prop := ∃ (N i j : Nat) (st : Nat → Option Rat) (D : Nat), ds = [.tup (tab N st), .int i, .int j] ∧ i ≤ j ∧ j ≤ N ∧ N ≤ 24 ∧ Gr D ∧ NiF D 1 st ∧ Q (bd (dist st i j))
theorem len_distance_between {ds : List Dt} {Q : Dt → Prop} (h : p_distance_between ds Q) : ds.length = 3 := by
  obtain ⟨_, _, _, _, _, rfl, _⟩ := h; rfl
abbrev p_law_far := p_distance_between
theorem len_law_far {ds : List Dt} {Q : Dt → Prop} (h : p_law_far ds Q) : ds.length = 3 := len_distance_between h
def p_law_reach (ds : List Dt) (Q : Dt → Prop) : Prop := ∃ (n k : Nat) (s st : Nat → Option Rat) (D c : Nat), ds = [.tup (tab n s), .tup (tab (n - 1) st), .int k] ∧ k < n ∧ n ≤ 24 ∧ Gr D ∧ NiF D c s ∧ NiF D 1 st ∧ c ≤ 1000 ∧ NNs st ∧ Q (bd (ledF n s st k))
theorem len_law_reach {ds : List Dt} {Q : Dt → Prop} (h : p_law_reach ds Q) : ds.length = 3 := by
  obtain ⟨_, _, _, _, _, _, rfl, _⟩ := h; rfl
theorem rat_zero : (Dt.tup [.int 0, .int 1]) = bd (some 0) := rfl
theorem tab_set_to {n i : Nat} {f : Nat → Option Rat} {v : Option Rat} (g : Nat → Option Rat) (h : ∀ k, k < n → (if k = i then v else f k) = g k) : (tab n f).set i (bd v) = tab n g := by
  rw [tab_set]
  exact tab_congr h
theorem bR_small {i : Int} (h0 : -1000 ≤ i) (h1 : i ≤ 1000) : bR i := ⟨by omega, by omega⟩
local macro_rules | `(tactic| walk_at "d1") => `(tactic| first
  | with_reducible refine ds_seq ?_
  | with_reducible refine ds_ret ?_
  | with_reducible refine ds_retN ?_
  | with_reducible refine ds_next ?_
  | with_reducible refine ds_own rfl (dl_list ?_)
  | with_reducible refine ds_own rfl (dl_lst ?_)
  | with_reducible refine ds_app rfl ?_ ?_
  | with_reducible refine ds_put rfl ?_
  | with_reducible refine ds_set rfl ?_
  | with_reducible refine ds_asg ?_
  | with_reducible refine ds_if ?_
  | with_reducible refine ds_par rfl rfl ?_
  | with_reducible refine de_var rfl ?_
  | with_reducible refine de_int ?_
  | with_reducible refine de_bl ?_
  | with_reducible refine de_non ?_
  | with_reducible refine de_str ?_
  | with_reducible refine de_add ?_
  | with_reducible refine de_mul ?_
  | with_reducible refine de_ix_own rfl ?_
  | with_reducible refine de_ix ?_
  | with_reducible refine de_call ?_
  | with_reducible refine de_callH rfl ?_
  | with_reducible refine de_callD (dds := [.non, .non]) (fun _ => .cons .non (.cons .non .nil)) ?_
  | with_reducible refine de_callD (dds := [.non]) (fun _ => .cons .non .nil) ?_
  | with_reducible refine de_chainI ?_
  | with_reducible refine de_opI0 ?_
  | with_reducible refine de_opI ?_
  | with_reducible refine de_opB0 ?_
  | with_reducible refine de_isN ?_
  | with_reducible refine de_notN ?_
  | with_reducible refine de_eqD ?_
  | with_reducible refine de_ne_own rfl ?_
  | with_reducible refine de_neD ?_
  | with_reducible refine de_neg ?_
  | with_reducible refine de_len_own rfl ?_
  | with_reducible refine de_len ?_
  | with_reducible refine de_int1 ?_
  | with_reducible refine de_abs ?_
  | with_reducible refine de_min2 ?_
  | with_reducible refine de_max2 ?_
  | with_reducible refine de_tuple_own rfl ?_
  | with_reducible refine de_tup ?_
  | with_reducible refine de_if ?_
  | with_reducible refine de_isBl ?_
  | with_reducible refine de_isIn ?_
  | with_reducible refine de_isTu ?_
  | with_reducible refine de_isLT ?_
  | with_reducible refine de_andV ?_
  | with_reducible refine de_orV ?_
  | with_reducible refine de_notT ?_
  | with_reducible refine de_fld ?_
  | with_reducible refine de_slice ?_
  | with_reducible refine do_none ?_
  | with_reducible refine do_some ?_
  | with_reducible refine dt_test ?_
  | with_reducible refine dt_tru ?_
  | with_reducible refine dt_and ?_
  | with_reducible refine dt_or ?_
  | with_reducible refine dt_not ?_
  | with_reducible refine da_cons ?_
  | with_reducible refine da_nil ?_
  | with_reducible refine de_lst ?_)
local macro_rules | `(tactic| walk_at "d2") => `(tactic| first
  | walk_at "d1"
  | with_reducible refine iteT ?_
  | with_reducible refine iteF ?_
  | (with_reducible refine Exists.intro _ (Exists.intro _ (And.intro rfl (And.intro rfl ?_))))
  | (with_reducible refine Exists.intro _ (And.intro rfl ?_))
  | (with_reducible refine .inl (Exists.intro _ (Exists.intro _ (And.intro rfl (And.intro rfl ?_)))))
  | (refine ⟨_, _, _, .inr rfl, rfl, rfl, ?_⟩)
  | (refine ⟨Nat.le_of_ble_eq_true rfl, ?_⟩)
  | (with_reducible refine And.intro rfl ?_)
  | (with_reducible refine And.intro (by walk_at "mul") ?_)
  | (with_reducible refine And.intro (by walk_at "shd") ?_))
local macro_rules | `(tactic| walk_at "dd") => `(tactic| (repeat walk_at "d2"))
local macro_rules | `(tactic| walk_at "set") => `(tactic| simp only [List.set_cons_zero, List.set_cons_succ])
local macro_rules | `(tactic| walk_at "mul") => `(tactic| first
  | exact mul_nd (by assumption) (by assumption) | exact mul_nn (by assumption) (by assumption) | exact mul_dd (by assumption) (by assumption))
local macro_rules | `(tactic| walk_at "shd") => `(tactic| first
  | exact shD_int _ | exact shD_non | exact shD_rat _ | exact shD_tupTab _ _ | with_reducible assumption)
section
variable {P : Program} {w : World} {K : PySem.W.Frag} {mg : Str → Option Value} {base : Heap} {CL CC CB : Addr}
theorem ok_led_along (T : Txt K mg CL CC CB) (D : Def K mg "led_along" s_led_along) (C_lesser_bound : Cal P w K mg base "lesser_bound" 2 ["one", "other"] (spD K p_lesser_bound)) (C_bounds_added : Cal P w K mg base "bounds_added" 4 ["one", "other"] (spD K p_bounds_added))  :
    Cal P w K mg base "led_along" 5 ["starts", "steps"] (spD K p_led_along) := by
  obtain ⟨f, fd, F, hg⟩ := D
  refine ⟨f, fd, ok_D (k := 4) F sc_led_along (fun ds Q h => len_led_along h) (fun cdv A outer s H E hr => ⟨_, (pss_cons (ps_set (i := 2) sc_led_along.nd rfl (Or.inl rfl) (pe_list T.bi (pv 0)))
    (pss_cons (ps_for PassesOwn.never rfl (pi_range2 rfl T.bi.range (pa_cons pe_int (pa_cons (pe_len T.bi (pv 2)) pa_nil))) (pg_name (i := 3) sc_led_along.nd rfl (Or.inl rfl)) (pss_one (ps_asg (pe_cal C_lesser_bound hr (by decide) rfl (pa_cons (pe_ix ix_seq (pv 2) (pv 3) (fun _ _ => rfl)) (pa_cons (pe_cal C_bounds_added hr (by decide) rfl (pa_cons (pe_ix ix_seq (pv 2) (pe_op op_sub (pv 3) pe_int) (fun _ _ => rfl)) (pa_cons (pe_ix ix_seq (pv 1) (pe_op op_sub (pv 3) pe_int) (fun _ _ => rfl)) pa_nil))) pa_nil))) (pg_sub (pv 2) (pv 3) set_list))))
    (pss_cons (ps_for PassesOwn.never rfl (pi_range3 rfl T.bi.range (pa_cons (pe_op op_sub (pe_len T.bi (pv 2)) pe_int) (pa_cons pe_int (pa_cons (pe_un un_neg pe_int) pa_nil)))) (pg_name (i := 3) sc_led_along.nd rfl (Or.inl rfl)) (pss_one (ps_asg (pe_cal C_lesser_bound hr (by decide) rfl (pa_cons (pe_ix ix_seq (pv 2) (pe_op op_sub (pv 3) pe_int) (fun _ _ => rfl)) (pa_cons (pe_cal C_bounds_added hr (by decide) rfl (pa_cons (pe_ix ix_seq (pv 2) (pv 3) (fun _ _ => rfl)) (pa_cons (pe_ix ix_seq (pv 1) (pe_op op_sub (pv 3) pe_int) (fun _ _ => rfl)) pa_nil))) pa_nil))) (pg_sub (pv 2) (pe_op op_sub (pv 3) pe_int) set_list))))
    (pss_one (ps_ret (pv 2)))))), fun G0 H0 ds Q h => ?_⟩), hg, F.kp, F.binds fun _ _ _ _ _ _ us hl => match us, hl with | [_, _], _ => rfl⟩
  try dsimp only [cxOf, Cx.nox, Cx.wish]
  obtain ⟨s0, n, s, st, D, c, rfl, hs0, hn1, hn2, gr, hs, hst, hc, nn, k⟩ := h
  change DS _ _ [_, _, .no, .no] _
  have smF : ∀ j, j < n → SmB (fwdF s st j) := fun j hj => gr.sm (hs.fwd hst j) (by omega)
  have smL : ∀ j, j < n → SmB (ledF n s st j) := fun j hj => gr.sm (hs.led hst nn hj) (by omega)
  have smS : ∀ j, SmB (s j) := fun j => gr.sm (hs j) (by omega)
  have smT : ∀ j, SmB (st j) := fun j => gr.sm (hst j) (by omega)
  walk_at "dd"
  refine ⟨_, hs0, ?_⟩
  walk_at "dd"
  walk_at "set"
  refine ds_forR2 (fun i ρ => ∃ x, ρ = [.dt s0, .dt (.tup (tab (n - 1) st)), .own (tab n fun k => if k ≤ i then fwdF s st k else s k), x]) ?_
  walk_at "dd"
  rw [tab_len]
  refine ⟨_, _, rfl, bR_small (by omega) (by omega), bR_small (by omega) (by omega), ⟨.no, ?_⟩, ?_, ?_⟩
  · have : tab n s = tab n fun k => if k ≤ 0 then fwdF s st k else s k := tab_congr fun k _ => by
      by_cases h : k ≤ 0
      · obtain rfl : k = 0 := by omega
        rfl
      · rw [if_neg h]
    rw [← this]
  · rintro i ρ hi ⟨x, rfl⟩
    refine dg_name0 rfl ?_
    walk_at "set"
    walk_at "dd"
    refine ⟨_, _, rfl, tab_at (k := i + 1) _ (by omega) (by omega), ?_⟩
    walk_at "dd"
    refine ⟨_, _, rfl, tab_at (k := i) _ (by omega) (by omega), ?_⟩
    walk_at "dd"
    refine ⟨_, _, _, .inr rfl, rfl, tab_at (k := i) _ (by omega) (by omega), ?_⟩
    walk_at "dd"
    rw [if_pos (Nat.le_refl i)]
    refine ⟨_, _, rfl, smF i (by omega), smT i, ?_⟩
    walk_at "dd"
    rw [if_neg (by omega)]
    refine ⟨_, _, rfl, smS _, gr.sm ((hs.fwd hst i).add (hst i)) (by omega), ?_⟩
    walk_at "dd"
    refine ⟨_, i + 1, rfl, by rw [tab_len]; unfold ixN; rw [if_pos (by omega), if_pos (by omega)]; congr 1; omega, ?_⟩
    rw [tab_set_to (fun k => if k ≤ i + 1 then fwdF s st k else s k) fun k _ => ?_]
    · exact ⟨_, rfl⟩
    by_cases h1 : k = i + 1
    · subst h1
      rw [if_pos rfl, if_pos (Nat.le_refl _)]
      rfl
    · rw [if_neg h1]
      by_cases h2 : k ≤ i
      · rw [if_pos h2, if_pos (by omega)]
      · rw [if_neg h2, if_neg (by omega)]
  · rintro ρ ⟨x, rfl⟩
    have e1 : (tab n fun k => if k ≤ ((n : Int) - 1).toNat then fwdF s st k else s k) = tab n (fwdF s st) := tab_congr fun k hk => by rw [if_pos (by omega)]
    rw [e1]
    walk_at "dd"
    refine ds_forR3 (fun i ρ => ∃ x, ρ = [.dt s0, .dt (.tup (tab (n - 1) st)), .own (tab n fun k => if n - 1 - i ≤ k then ledF n s st k else fwdF s st k), x]) ?_
    walk_at "dd"
    rw [tab_len]
    refine ⟨_, _, rfl, bR_small (by omega) (by omega), bR_small (by omega) (by omega), ⟨x, ?_⟩, ?_, ?_⟩
    · have : tab n (fwdF s st) = tab n fun k => if n - 1 - 0 ≤ k then ledF n s st k else fwdF s st k := tab_congr fun k hk => by
        by_cases h : n - 1 - 0 ≤ k
        · rw [if_pos h, led_last s st (by omega)]
        · rw [if_neg h]
      rw [← this]
    · rintro i ρ hi ⟨x, rfl⟩
      refine dg_name0 rfl ?_
      walk_at "set"
      walk_at "dd"
      refine ⟨_, _, rfl, tab_at (k := n - 2 - i) _ (by omega) (by omega), ?_⟩
      walk_at "dd"
      refine ⟨_, _, rfl, tab_at (k := n - 1 - i) _ (by omega) (by omega), ?_⟩
      walk_at "dd"
      refine ⟨_, _, _, .inr rfl, rfl, tab_at (k := n - 2 - i) _ (by omega) (by omega), ?_⟩
      walk_at "dd"
      rw [if_pos (Nat.le_refl _)]
      refine ⟨_, _, rfl, smL _ (by omega), smT _, ?_⟩
      walk_at "dd"
      rw [if_neg (by omega)]
      refine ⟨_, _, rfl, smF _ (by omega), gr.sm ((hs.led hst nn (show n - 1 - i < n by omega)).add (hst _)) (by omega), ?_⟩
      walk_at "dd"
      refine ⟨_, n - 2 - i, rfl, by rw [tab_len]; unfold ixN; rw [if_pos (by omega), if_pos (by omega)]; congr 1; omega, ?_⟩
      rw [tab_set_to (fun k => if n - 1 - (i + 1) ≤ k then ledF n s st k else fwdF s st k) fun k _ => ?_]
      · exact ⟨_, rfl⟩
      by_cases h1 : k = n - 2 - i
      · subst h1
        rw [if_pos rfl, if_pos (by omega), led_eq s st (show n - 2 - i + 1 < n by omega), show n - 2 - i + 1 = n - 1 - i by omega]
      · rw [if_neg h1]
        by_cases h2 : n - 1 - i ≤ k
        · rw [if_pos h2, if_pos (by omega)]
        · rw [if_neg h2, if_neg (by omega)]
    · rintro ρ ⟨x, rfl⟩
      have e2 : (tab n fun k => if n - 1 - ((n : Int) - 1 - 0).toNat ≤ k then ledF n s st k else fwdF s st k) = tab n (ledF n s st) := tab_congr fun k hk => by rw [if_pos (by omega)]
      rw [e2]
      exact ds_ret_own rfl k
theorem ok_distance_between (T : Txt K mg CL CC CB) (D : Def K mg "distance_between" s_distance_between) (C_bounds_added : Cal P w K mg base "bounds_added" 4 ["one", "other"] (spD K p_bounds_added))  :
    Cal P w K mg base "distance_between" 5 ["steps", "first", "second"] (spD K p_distance_between) := by
  obtain ⟨az, hZero, rZero⟩ := T.zero
  obtain ⟨f, fd, F, hg⟩ := D
  refine ⟨f, fd, ok_D (k := 4) F sc_distance_between (fun ds Q h => len_distance_between h) (fun cdv A outer s H E hr => ⟨_, (pss_cons (ps_set (i := 3) sc_distance_between.nd rfl (Or.inl rfl) (pe_glob (v := .ref az) rfl hZero rfl))
    (pss_cons (ps_for PassesOwn.never rfl (pi_tup (pe_slice sl_any (pv 0) (po_some (pv 1)) (po_some (pv 2)))) (pg_name (i := 4) sc_distance_between.nd rfl (Or.inl rfl)) (pss_one (ps_set (i := 3) sc_distance_between.nd rfl (Or.inl rfl) (pe_cal C_bounds_added hr (by decide) rfl (pa_cons (pv 3) (pa_cons (pv 4) pa_nil))))))
    (pss_one (ps_ret (pv 3))))), fun G0 H0 ds Q h => ?_⟩), hg, F.kp, F.binds fun _ _ _ _ _ _ us hl => match us, hl with | [_, _, _], _ => rfl⟩
  try dsimp only [cxOf, Cx.nox, Cx.wish]
  obtain ⟨N, i, j, st, D, rfl, hij, hj, hN, gr, hst, k⟩ := h
  change DS _ _ [_, _, _, .no, .no] _
  walk_at "dd"
  refine de_const rZero ?_
  walk_at "set"
  walk_at "dd"
  refine ds_forT (fun xs t ρ => ∃ x, ρ = [.dt (.tup (tab N st)), .dt (.int i), .dt (.int j), .dt (bd (farF st i t)), x]) ?_
  walk_at "dd"
  refine .inl ⟨_, rfl, ?_⟩
  rw [tab_cut st hij hj]
  refine ⟨_, rfl, ⟨_, rfl⟩, ?_, ?_⟩
  · rintro t x ρ hx ⟨y, rfl⟩
    have ht : t < j - i := by
      have := (List.getElem?_eq_some_iff.mp hx).1
      rwa [tab_len] at this
    rw [tab_get _ ht] at hx
    cases hx
    refine dg_name0 rfl ?_
    walk_at "set"
    walk_at "dd"
    refine ⟨_, _, rfl, gr.sm (hst.far i t) (by omega), gr.sm (hst _) (by omega), ?_⟩
    exact ⟨_, rfl⟩
  · rintro ρ ⟨y, rfl⟩
    rw [tab_len]
    rw [dist_le hij] at k
    walk_at "dd"
    exact k
theorem ok_law_far (T : Txt K mg CL CC CB) (D : Def K mg "_law_far" s_law_far) (C_law_added : Cal P w K mg base "_law_added" 4 ["_law_one", "_law_other"] (spD K p_law_added))  :
    Cal P w K mg base "_law_far" 5 ["_law_steps", "_law_first", "_law_second"] (spD K p_law_far) := by
  obtain ⟨f, fd, F, hg⟩ := D
  refine ⟨f, fd, ok_D (k := 4) F sc_law_far (fun ds Q h => len_law_far h) (fun cdv A outer s H E hr => ⟨_, (pss_cons (ps_set (i := 3) sc_law_far.nd rfl (Or.inl rfl) (pe_tup (pa_cons pe_int (pa_cons pe_int pa_nil))))
    (pss_cons (ps_for PassesOwn.never rfl (pi_tup (pe_slice sl_any (pv 0) (po_some (pv 1)) (po_some (pv 2)))) (pg_name (i := 4) sc_law_far.nd rfl (Or.inl rfl)) (pss_one (ps_set (i := 3) sc_law_far.nd rfl (Or.inl rfl) (pe_cal C_law_added hr (by decide) rfl (pa_cons (pv 3) (pa_cons (pv 4) pa_nil))))))
    (pss_one (ps_ret (pv 3))))), fun G0 H0 ds Q h => ?_⟩), hg, F.kp, F.binds fun _ _ _ _ _ _ us hl => match us, hl with | [_, _, _], _ => rfl⟩
  try dsimp only [cxOf, Cx.nox, Cx.wish]
  obtain ⟨N, i, j, st, D, rfl, hij, hj, hN, gr, hst, k⟩ := h
  change DS _ _ [_, _, _, .no, .no] _
  walk_at "dd"
  walk_at "set"
  refine ds_forT (fun xs t ρ => ∃ x, ρ = [.dt (.tup (tab N st)), .dt (.int i), .dt (.int j), .dt (bd (farF st i t)), x]) ?_
  walk_at "dd"
  refine .inl ⟨_, rfl, ?_⟩
  rw [tab_cut st hij hj]
  refine ⟨_, rfl, ⟨_, rfl⟩, ?_, ?_⟩
  · rintro t x ρ hx ⟨y, rfl⟩
    have ht : t < j - i := by
      have := (List.getElem?_eq_some_iff.mp hx).1
      rwa [tab_len] at this
    rw [tab_get _ ht] at hx
    cases hx
    refine dg_name0 rfl ?_
    walk_at "set"
    walk_at "dd"
    refine ⟨_, _, rfl, gr.sm (hst.far i t) (by omega), gr.sm (hst _) (by omega), ?_⟩
    exact ⟨_, rfl⟩
  · rintro ρ ⟨y, rfl⟩
    rw [tab_len]
    rw [dist_le hij] at k
    walk_at "dd"
    exact k
theorem ok_law_reach (T : Txt K mg CL CC CB) (D : Def K mg "_law_reach" s_law_reach) (C_law_added : Cal P w K mg base "_law_added" 4 ["_law_one", "_law_other"] (spD K p_law_added)) (C_law_least : Cal P w K mg base "_law_least" 2 ["_law_one", "_law_other"] (spD K p_law_least))  :
    Cal P w K mg base "_law_reach" 5 ["_law_starts", "_law_steps", "_law_place"] (spD K p_law_reach) := by
  obtain ⟨f, fd, F, hg⟩ := D
  refine ⟨f, fd, ok_D (k := 4) F sc_law_reach (fun ds Q h => len_law_reach h) (fun cdv A outer s H E hr => ⟨_, (pss_cons (ps_set (i := 3) sc_law_reach.nd rfl (Or.inl rfl) (pe_ix ix_seq (pv 0) (pv 2) (fun _ _ => rfl)))
    (pss_cons (ps_set (i := 4) sc_law_reach.nd rfl (Or.inl rfl) (pe_tup (pa_cons pe_int (pa_cons pe_int pa_nil))))
    (pss_cons (ps_for PassesOwn.never rfl (pi_range3 rfl T.bi.range (pa_cons (pe_op op_sub (pv 2) pe_int) (pa_cons (pe_un un_neg pe_int) (pa_cons (pe_un un_neg pe_int) pa_nil)))) (pg_name (i := 5) sc_law_reach.nd rfl (Or.inl rfl)) (pss_cons (ps_set (i := 4) sc_law_reach.nd rfl (Or.inl rfl) (pe_cal C_law_added hr (by decide) rfl (pa_cons (pv 4) (pa_cons (pe_ix ix_seq (pv 1) (pv 5) (fun _ _ => rfl)) pa_nil))))
    (pss_one (ps_set (i := 3) sc_law_reach.nd rfl (Or.inl rfl) (pe_cal C_law_least hr (by decide) rfl (pa_cons (pv 3) (pa_cons (pe_cal C_law_added hr (by decide) rfl (pa_cons (pv 4) (pa_cons (pe_ix ix_seq (pv 0) (pv 5) (fun _ _ => rfl)) pa_nil))) pa_nil)))))))
    (pss_cons (ps_set (i := 4) sc_law_reach.nd rfl (Or.inl rfl) (pe_tup (pa_cons pe_int (pa_cons pe_int pa_nil))))
    (pss_cons (ps_for PassesOwn.never rfl (pi_range2 rfl T.bi.range (pa_cons (pe_op op_addA (pv 2) pe_int) (pa_cons (pe_len T.bi (pv 0)) pa_nil))) (pg_name (i := 5) sc_law_reach.nd rfl (Or.inl rfl)) (pss_cons (ps_set (i := 4) sc_law_reach.nd rfl (Or.inl rfl) (pe_cal C_law_added hr (by decide) rfl (pa_cons (pv 4) (pa_cons (pe_ix ix_seq (pv 1) (pe_op op_sub (pv 5) pe_int) (fun _ _ => rfl)) pa_nil))))
    (pss_one (ps_set (i := 3) sc_law_reach.nd rfl (Or.inl rfl) (pe_cal C_law_least hr (by decide) rfl (pa_cons (pv 3) (pa_cons (pe_cal C_law_added hr (by decide) rfl (pa_cons (pv 4) (pa_cons (pe_ix ix_seq (pv 0) (pv 5) (fun _ _ => rfl)) pa_nil))) pa_nil)))))))
    (pss_one (ps_ret (pv 3)))))))), fun G0 H0 ds Q h => ?_⟩), hg, F.kp, F.binds fun _ _ _ _ _ _ us hl => match us, hl with | [_, _, _], _ => rfl⟩
  try dsimp only [cxOf, Cx.nox, Cx.wish]
  obtain ⟨n, p, s, st, D, c, rfl, hp, hn2, gr, hs, hst, hc, nn, k⟩ := h
  change DS _ _ [_, _, _, .no, .no, .no] _
  have smS : ∀ j, SmB (s j) := fun j => gr.sm (hs j) (by omega)
  have smT : ∀ j, SmB (st j) := fun j => gr.sm (hst j) (by omega)
  have niR : ∀ j, j < n → NiB D (c + 24) (reachOf s st p j) := fun j hj => ((hs j).add (hst.dist hj hp)).mono (by omega)
  have niD : ∀ i j, i < n → j < n → NiB D 24 (dist st i j) := fun i j hi hj => (hst.dist hi hj).mono (by omega)
  walk_at "dd"
  refine ⟨_, _, _, .inr rfl, rfl, tab_at (k := p) _ hp rfl, ?_⟩
  walk_at "dd"
  walk_at "set"
  -- leftward: the least over the sections from p - i to p
  refine ds_forR3 (fun i ρ => ∃ b x, IsInf (fun j => p - i ≤ j ∧ j ≤ p) (reachOf s st p) b ∧ NiB D (c + 24) b ∧ ρ = [.dt (.tup (tab n s)), .dt (.tup (tab (n - 1) st)), .dt (.int p), .dt (bd b), .dt (bd (dist st (p - i) p)), x]) ?_
  walk_at "dd"
  refine ⟨_, _, rfl, bR_small (by omega) (by omega), bR_small (by omega) (by omega), ⟨s p, .no, ?_, (hs p).mono (by omega), ?_⟩, ?_, ?_⟩
  · have : s p = reachOf s st p p := by unfold reachOf; rw [dist_self, add_zero']
    rw [this]
    exact IsInf.one fun i => by omega
  · rw [Nat.sub_zero, dist_self]
    rfl
  · rintro i ρ hi ⟨b, x, hb, nb, rfl⟩
    refine dg_name0 rfl ?_
    walk_at "set"
    walk_at "dd"
    refine ⟨_, _, _, .inr rfl, rfl, tab_at (k := p - 1 - i) _ (by omega) (by omega), ?_⟩
    walk_at "dd"
    refine ⟨_, _, rfl, gr.sm (niD (p - i) p (by omega) hp) (by omega), smT _, ?_⟩
    have e1 : addB (dist st (p - i) p) (st (p - 1 - i)) = dist st (p - (i + 1)) p := by
      rw [dist_add (st := st) (i := p - (i + 1)) (j := p - i) (k := p) (by omega) (by omega), add_comm']
      have := dist_step st (p - (i + 1))
      rw [show p - (i + 1) + 1 = p - i by omega] at this
      rw [this, show p - (i + 1) = p - 1 - i by omega]
    rw [e1]
    walk_at "set"
    walk_at "dd"
    refine ⟨_, _, _, .inr rfl, rfl, tab_at (k := p - 1 - i) _ (by omega) (by omega), ?_⟩
    walk_at "dd"
    refine ⟨_, _, rfl, gr.sm (niD (p - (i + 1)) p (by omega) hp) (by omega), smS _, ?_⟩
    have e2 : addB (dist st (p - (i + 1)) p) (s (p - 1 - i)) = reachOf s st p (p - (i + 1)) := by
      unfold reachOf
      rw [add_comm', show p - 1 - i = p - (i + 1) by omega]
    rw [e2]
    walk_at "dd"
    refine ⟨_, _, rfl, gr.sm nb (by omega), gr.sm (niR _ (by omega)) (by omega), ?_⟩
    walk_at "set"
    exact ⟨_, _, hb.insert fun j => by omega, (nb.min (niR _ (by omega))).mono (by simp [Nat.max_def]), rfl⟩
  · rintro ρ ⟨b, x, hb, nb, rfl⟩
    walk_at "dd"
    walk_at "set"
    -- rightward
    refine ds_forR2 (fun i ρ => ∃ b x, IsInf (fun j => j ≤ p + i) (reachOf s st p) b ∧ NiB D (c + 24) b ∧ ρ = [.dt (.tup (tab n s)), .dt (.tup (tab (n - 1) st)), .dt (.int p), .dt (bd b), .dt (bd (dist st p (p + i))), x]) ?_
    walk_at "dd"
    refine .inl ⟨_, .inr rfl, ?_⟩
    rw [tab_len]
    walk_at "dd"
    refine ⟨_, _, rfl, bR_small (by omega) (by omega), bR_small (by omega) (by omega), ⟨b, x, hb.congr fun j => by omega, nb, ?_⟩, ?_, ?_⟩
    · rw [Nat.add_zero, dist_self]
      rfl
    · rintro i ρ hi ⟨b, x, hb, nb, rfl⟩
      refine dg_name0 rfl ?_
      walk_at "set"
      walk_at "dd"
      refine ⟨_, _, _, .inr rfl, rfl, tab_at (k := p + i) _ (by omega) (by omega), ?_⟩
      walk_at "dd"
      refine ⟨_, _, rfl, gr.sm (niD p (p + i) hp (by omega)) (by omega), smT _, ?_⟩
      have e1 : addB (dist st p (p + i)) (st (p + i)) = dist st p (p + (i + 1)) := by
        rw [dist_add (st := st) (i := p) (j := p + i) (k := p + (i + 1)) (by omega) (by omega)]
        have := dist_step st (p + i)
        rw [show p + i + 1 = p + (i + 1) by omega] at this
        rw [this]
      rw [e1]
      walk_at "set"
      walk_at "dd"
      refine ⟨_, _, _, .inr rfl, rfl, tab_at (k := p + (i + 1)) _ (by omega) (by omega), ?_⟩
      walk_at "dd"
      refine ⟨_, _, rfl, gr.sm (niD p (p + (i + 1)) hp (by omega)) (by omega), smS _, ?_⟩
      have e2 : addB (dist st p (p + (i + 1))) (s (p + (i + 1))) = reachOf s st p (p + (i + 1)) := by
        unfold reachOf
        rw [add_comm', dist_comm]
      rw [e2]
      walk_at "dd"
      refine ⟨_, _, rfl, gr.sm nb (by omega), gr.sm (niR _ (by omega)) (by omega), ?_⟩
      walk_at "set"
      exact ⟨_, _, hb.insert fun j => by omega, (nb.min (niR _ (by omega))).mono (by simp [Nat.max_def]), rfl⟩
    · rintro ρ ⟨b, x, hb, nb, rfl⟩
      walk_at "dd"
      have e : b = ledF n s st p := (hb.congr (T := (· < n)) fun j => by omega).uniq (led_inf nn hp)
      rw [e]
      exact k
end
end K20
namespace K20
open PySem L2
open Evl (Ex)
open PyProof.Rows (envOfC)
/-! F5: the objects: Clash, Limits. -/
theorem putF_two {f g : Str} (h : ¬ f = g) (v w : V) : putF g w (putF f v []) = [(f, v), (g, w)] := by
  show (if f = g then _ else (f, v) :: putF g w []) = _
  rw [if_neg h]
  rfl
/-! ### Clash -/
def spClashI (CC : Addr) : Sp := fun vs H Q _ => ∃ (p dx : Addr) (v1 v2 : V), vs = [.ref p, v1, v2] ∧ H p = some (.ins CC dx []) ∧ Q .non (upd H p (.ins CC dx [("first", v1), ("second", v2)]))
def MkClash (P : Program) (w : World) (K : PySem.W.Frag) (mg : Str → Option Value) (base : Heap) (CC : Addr) : Prop :=
  ∃ f fd, Mk K CC f ∧ FnOk P w K mg base CX0 1 f fd ["self", "first", "second"] (spClashI CC) ∧ Binds K fd ["self", "first", "second"] []
theorem pe_mkClash {X : Cx} {CL CC CB : Addr} {k : Nat} {p pos : Pos} {e : PySem.Expr} {es : List PySem.Expr} {t : TA} (T : Txt X.K X.mg CL CC CB) (C : MkClash X.prog X.w X.K X.mg X.base CC) (hr : Room k X.A) (hj : 2 ≤ k) (hg : Gl X "Clash") (ha : PA X (e :: es) t)
    (he : starEach (e :: es) X.env = (false, eval e X.env) :: starEach es X.env := by rfl) (hpl : (backTo pos (starEach es X.env)).any (·.1) = false := by rfl) :
    PE X (.Call (.Name "Clash" p) (e :: es) [] pos) (tMake CC (spClashI CC) [] E0 t) := by
  obtain ⟨f, fd, M, F, hb⟩ := C
  exact pe_make M F (hr.mono hj) hg T.gClash hb .nil pass0 ha (by decide) he hpl
def clO (CC : Addr) (a b : Nat) : Dt := .ob CC ["first", "second"] [.int a, .int b]
theorem de_mkClash {c : Ctx} {CC : Addr} {ta tb : TE} {ρ : List Sl} {P : Dt → Prop} {E : XK} (h : DE c ta ρ fun d1 => DE c tb ρ fun d2 => P (.ob CC ["first", "second"] [d1, d2])) : DE c (tMake CC (spClashI CC) [] E (tCons ta (tCons tb tNil))) ρ P := fun σ G H I Q q =>
  h σ G H I _ fun v1 d1 G1 H1 s1 r1 h1 => h1 σ G1 H1 (I.step s1) _ fun v2 d2 G2 H2 s2 r2 h2 => fun x dx hx hdx hne => by
    have st := s1.trans s2
    have h3 : H2 dx = none := hdx
    have s3 : Stp c G H G2 (upd H2 dx (.own x)) := st.ownTo I.gd h3
    have h4 : upd H2 dx (.own x) x = none := by rw [upd_ne (Ne.symm hne)]; exact hx
    have s4 := s3.newTo (o := .ins CC dx [("first", v1), ("second", v2)]) I.gd h4
    refine ⟨x, dx, v1, v2, rfl, upd_same, rfl, ?_⟩
    rw [upd_upd]
    have g2 : G2 x = none := Ex.sub_none st.gh hx
    have eg : Ex G2 (upd G2 x (.ins CC dx [("first", v1), ("second", v2)])) := Ex.new g2
    exact q _ _ _ _ s4 (.ob (ns := ["first", "second"]) (ys := [v1, v2]) upd_same rfl (.cons ((r1.mono s2.gg).mono eg) (.cons (r2.mono eg) .nil))) h2
/-! ### Limits -/
def spLimitsI (K : PySem.W.Frag) (CL : Addr) : Sp := fun vs H Q _ => ∃ (G : Hp) (p dx : Addr) (v1 v2 : V) (s1 s2 : Dt) (n : Nat) (m st : Nat → Option Rat), vs = [.ref p, v1, v2] ∧ Ex G H ∧ G p = none ∧ H p = some (.ins CL dx []) ∧ Rep K G v1 s1 ∧ Rep K G v2 s2 ∧
  isSeq s1 (tab n m) ∧ isSeq s2 (tab (n - 1) st) ∧ 1 ≤ n ∧ n ≤ 24 ∧ (∀ k, k < n → NN (m k)) ∧ (∀ k, k + 1 < n → NN (st k)) ∧
  ∀ u1 u2 G' H', Ex G G' → Ex G' H' → (∀ a, H a ≠ none → G a = none → G' a = none ∧ (a ≠ p → H' a = H a)) → G' p = none → Rep K G' u1 (.tup (tab n m)) → Rep K G' u2 (.tup (tab (n - 1) st)) → H' p = some (.ins CL dx [("mosts", u1), ("steps", u2)]) → Q .non H'
def MkLimits (P : Program) (w : World) (K : PySem.W.Frag) (mg : Str → Option Value) (base : Heap) (CL : Addr) : Prop :=
  ∃ f fd, Mk K CL f ∧ FnOk P w K mg base CX0 4 f fd ["self", "mosts", "steps"] (spLimitsI K CL) ∧ Binds K fd ["self", "mosts", "steps"] []
theorem pe_mkLimits {X : Cx} {CL CC CB : Addr} {k : Nat} {p pos : Pos} {e : PySem.Expr} {es : List PySem.Expr} {t : TA} (T : Txt X.K X.mg CL CC CB) (C : MkLimits X.prog X.w X.K X.mg X.base CL) (hr : Room k X.A) (hj : 5 ≤ k) (hg : Gl X "Limits") (ha : PA X (e :: es) t)
    (he : starEach (e :: es) X.env = (false, eval e X.env) :: starEach es X.env := by rfl) (hpl : (backTo pos (starEach es X.env)).any (·.1) = false := by rfl) :
    PE X (.Call (.Name "Limits" p) (e :: es) [] pos) (tMake CL (spLimitsI X.K CL) [] E0 t) := by
  obtain ⟨f, fd, M, F, hb⟩ := C
  exact pe_make M F (hr.mono hj) hg T.gLimits hb .nil pass0 ha (by decide) he hpl
theorem de_mkLimits {c : Ctx} {CL : Addr} {ta tb : TE} {ρ : List Sl} {P : Dt → Prop} {E : XK} (h : DE c ta ρ fun d1 => DE c tb ρ fun d2 => ∃ (n : Nat) (m st : Nat → Option Rat), isSeq d1 (tab n m) ∧ isSeq d2 (tab (n - 1) st) ∧ 1 ≤ n ∧ n ≤ 24 ∧ (∀ k, k < n → NN (m k)) ∧ (∀ k, k + 1 < n → NN (st k)) ∧ P (limO CL n m st)) :
    DE c (tMake CL (spLimitsI c.K CL) [] E (tCons ta (tCons tb tNil))) ρ P := fun σ G H I Q q =>
  h σ G H I _ fun v1 d1 G1 H1 s1 r1 h1 => h1 σ G1 H1 (I.step s1) _ fun v2 d2 G2 H2 s2 r2 h2 => fun x dx hx hdx hne => by
    obtain ⟨n, m, st, h3, h4, h5, h6, h7, h8, h9⟩ := h2
    have st12 := s1.trans s2
    have s3 : Stp c G H G2 (upd H2 dx (.own x)) := st12.ownTo I.gd hdx
    have hx' : upd H2 dx (.own x) x = none := by rw [upd_ne (Ne.symm hne)]; exact hx
    have s4 : Stp c G H G2 (upd (upd H2 dx (.own x)) x (.ins CL dx [])) := s3.ownTo I.gd hx'
    have g2 : G2 x = none := Ex.sub_none st12.gh hx
    refine ⟨G2, x, dx, v1, v2, d1, d2, n, m, st, rfl, s4.gh, g2, upd_same, r1.mono s2.gg, r2, h3, h4, h5, h6, h7, h8, fun u1 u2 G' H' gg gh fr gp ru1 ru2 hp => ⟨rfl, ?_⟩⟩
    -- frozen
    have s5 : Stp c G H (upd G' x (.ins CL dx [("mosts", u1), ("steps", u2)])) H' := by
      have xn : H x = none := st12.back hx
      refine ⟨(st12.gg.trans gg).trans (Ex.new gp), fun b u e => ?_, fun a h1 h2 => ?_, fun l hl => ?_⟩
      · by_cases hb : b = x
        · subst hb
          rw [upd_same] at e
          rw [hp]
          exact e
        · rw [upd_ne hb] at e
          exact gh _ _ e
      · have ha : a ≠ x := fun z => h1 (by rw [z]; exact xn)
        rw [upd_ne ha]
        obtain ⟨q1, q2⟩ := s4.fr a h1 h2
        by_cases hh : c.hand = some a
        · have h3 := s4.hd a hh
          exact ⟨(fr a h3.some h3.1).1, fun z => absurd hh z⟩
        · have q3 := q2 hh
          obtain ⟨q4, q5⟩ := fr a (by rw [q3]; exact h1) q1
          exact ⟨q4, fun _ => (q5 ha).trans q3⟩
      · have h3 := s4.hd l hl
        have hlx : l ≠ x := fun z => (I.gd.hd l hl).2.2.some (by rw [z]; exact xn)
        obtain ⟨q4, q5⟩ := fr l h3.some h3.1
        exact h3.stay (gg.trans (Ex.new gp)) (by rw [upd_ne hlx]; exact q4) (q5 hlx)
    exact q _ _ _ _ s5 (.ob (ns := ["mosts", "steps"]) (ys := [u1, u2]) upd_same rfl (.cons (ru1.mono (Ex.new gp)) (.cons (ru2.mono (Ex.new gp)) .nil))) h9
/-- a state, seen anew from where it stands -/
theorem Env.rebase {K : PySem.W.Frag} {G0 H0 G H H2 : Hp} {σ : L2.St} {ρ : List Sl} (I : Env ⟨K, G0, H0, none⟩ σ G H ρ) (e : Ex G H2) (no : ∀ (i : Nat) xs, ρ[i]? ≠ some (.own xs)) : Env ⟨K, G, H2, none⟩ σ G H2 ρ where
  gd := ⟨e, Ex.refl G, fun a h1 h2 => ⟨h2, fun _ => rfl⟩, fun l z => by cases z⟩
  len := I.len
  sl := fun i s hs => by
    have q := I.sl i s hs
    cases s with
    | no => trivial
    | dt d => exact q
    | own xs => exact absurd hs (no i xs)
    | hand => obtain ⟨l, _, z⟩ := q; cases z
    | raw v => exact q
  own := fun i j xs ys a h => absurd h (no i xs)
theorem le_sizes {n : Nat} (h1 : 1 ≤ n) (h2 : n ≤ 24) : decide ((1 : Int) ≤ (n : Int)) = true ∧ decide ((n : Int) ≤ 24) = true := ⟨decide_eq_true (by omega), decide_eq_true (by omega)⟩
theorem isLT_seq {d : Dt} {xs : List Dt} (h : isSeq d xs) : isLT d = true := by rcases h with rfl | rfl <;> rfl
theorem shD_seqTab {d : Dt} {n : Nat} {f : Nat → Option Rat} (h : isSeq d (tab n f)) : shD d := by
  rcases h with rfl | rfl
  · exact shD_lt.mpr (shD_tupTab n f)
  · exact shD_tupTab n f
local macro_rules | `(tactic| walk_at "d1") => `(tactic| first
  | with_reducible refine ds_seq ?_
  | with_reducible refine dsr_seq ?_
  | with_reducible refine ds_ret ?_
  | with_reducible refine ds_retN ?_
  | with_reducible refine ds_next ?_
  | with_reducible refine ds_own rfl (dl_list ?_)
  | with_reducible refine ds_own rfl (dl_lst ?_)
  | with_reducible refine ds_app rfl ?_ ?_
  | with_reducible refine ds_put rfl ?_
  | with_reducible refine ds_set rfl ?_
  | with_reducible refine ds_asg ?_
  | with_reducible refine ds_if ?_
  | with_reducible refine ds_par rfl rfl ?_
  | with_reducible refine de_var rfl ?_
  | with_reducible refine de_int ?_
  | with_reducible refine de_bl ?_
  | with_reducible refine de_non ?_
  | with_reducible refine de_str ?_
  | with_reducible refine de_add ?_
  | with_reducible refine de_mul ?_
  | with_reducible refine de_ix_own rfl ?_
  | with_reducible refine de_ix ?_
  | with_reducible refine de_call ?_
  | with_reducible refine de_callH rfl ?_
  | with_reducible refine de_callD (dds := [.non, .non]) (fun _ => .cons .non (.cons .non .nil)) ?_
  | with_reducible refine de_callD (dds := [.non]) (fun _ => .cons .non .nil) ?_
  | with_reducible refine de_chainI ?_
  | with_reducible refine de_opI0 ?_
  | with_reducible refine de_opI ?_
  | with_reducible refine de_opB0 ?_
  | with_reducible refine de_isN ?_
  | with_reducible refine de_notN ?_
  | with_reducible refine de_eqD ?_
  | with_reducible refine de_ne_own rfl ?_
  | with_reducible refine de_neD ?_
  | with_reducible refine de_neg ?_
  | with_reducible refine de_len_own rfl ?_
  | with_reducible refine de_len ?_
  | with_reducible refine de_int1 ?_
  | with_reducible refine de_abs ?_
  | with_reducible refine de_min2 ?_
  | with_reducible refine de_max2 ?_
  | with_reducible refine de_tuple_own rfl ?_
  | with_reducible refine de_tup ?_
  | with_reducible refine de_if ?_
  | with_reducible refine de_isBl ?_
  | with_reducible refine de_isIn ?_
  | with_reducible refine de_isTu ?_
  | with_reducible refine de_isLT ?_
  | with_reducible refine de_andV ?_
  | with_reducible refine de_orV ?_
  | with_reducible refine de_notT ?_
  | with_reducible refine de_fld ?_
  | with_reducible refine de_slice ?_
  | with_reducible refine do_none ?_
  | with_reducible refine do_some ?_
  | with_reducible refine dt_test ?_
  | with_reducible refine dt_tru ?_
  | with_reducible refine dt_and ?_
  | with_reducible refine dt_or ?_
  | with_reducible refine dt_not ?_
  | with_reducible refine da_cons ?_
  | with_reducible refine da_nil ?_
  | with_reducible refine de_lst ?_)
local macro_rules | `(tactic| walk_at "d2") => `(tactic| first
  | walk_at "d1"
  | with_reducible refine iteT ?_
  | with_reducible refine iteF ?_
  | with_reducible refine ite_f Bool.not_true ?_
  | with_reducible refine ite_t Bool.not_false ?_
  | (with_reducible refine Exists.intro _ (Exists.intro _ (And.intro rfl (And.intro rfl ?_))))
  | (with_reducible refine Exists.intro _ (And.intro rfl ?_))
  | (with_reducible refine .inl (Exists.intro _ (Exists.intro _ (And.intro rfl (And.intro rfl ?_)))))
  | (refine ⟨_, _, _, .inr rfl, rfl, rfl, ?_⟩)
  | (refine ⟨Nat.le_of_ble_eq_true rfl, ?_⟩)
  | (with_reducible refine And.intro rfl ?_)
  | (with_reducible refine And.intro (by walk_at "mul") ?_)
  | (with_reducible refine And.intro (by walk_at "shd") ?_))
local macro_rules | `(tactic| walk_at "dd") => `(tactic| (repeat walk_at "d2"))
local macro_rules | `(tactic| walk_at "set") => `(tactic| simp only [List.set_cons_zero, List.set_cons_succ])
local macro_rules | `(tactic| walk_at "mul") => `(tactic| first
  | exact mul_nd (by assumption) (by assumption) | exact mul_nn (by assumption) (by assumption) | exact mul_dd (by assumption) (by assumption))
local macro_rules | `(tactic| walk_at "shd") => `(tactic| first
  | exact shD_int _ | exact shD_non | exact shD_rat _ | exact shD_tupTab _ _ | with_reducible assumption)
section
variable {P : Program} {w : World} {K : PySem.W.Frag} {mg : Str → Option Value} {base : Heap} {CL CC CB : Addr}
theorem ok_Clash_init (T : Txt K mg CL CC CB) {f : Addr} {fd : FuncData} (F : Fun K "__init__" "Clash.__init__" s_Clash___init__ f fd) (M : Mk K CC f) : MkClash P w K mg base CC := by
  refine ⟨f, fd, M, F.ok (k := 0) sc_Clash___init__ (fun vs H Q E h => ?_) (fun cdv A outer s H vs Q E hr h => ?_), F.binds fun _ _ _ _ _ _ us hl => match us, hl with | [_, _, _], _ => rfl⟩
  · obtain ⟨p, dx, v1, v2, rfl, _⟩ := h
    rfl
  · obtain ⟨p, dx, v1, v2, rfl, hp, k⟩ := h
    refine ⟨_,
(pss_cons (ps_fld (pv 0) (pv 1) rfl)
    (pss_one (ps_fld (pv 0) (pv 2) rfl)))
      , ?_⟩
    refine ⟨_, rfl, _, rfl, p, CC, dx, _, rfl, hp, T.oC.cl, T.nFirst, by show 0 < 1000; decide, ?_⟩
    refine ⟨_, rfl, _, rfl, p, CC, dx, _, rfl, upd_same, T.oC.cl, T.nSecond, by show 1 < 1000; decide, ?_⟩
    rw [upd_upd, putF_two (by decide +kernel)]
    exact k
theorem ok_Limits_init (T : Txt K mg CL CC CB) {f : Addr} {fd : FuncData} (F : Fun K "__init__" "Limits.__init__" s_Limits___init__ f fd) (M : Mk K CL f) (C_is_bound : Cal P w K mg base "is_bound" 3 ["thing"] (spD K p_is_bound)) : MkLimits P w K mg base CL := by
  obtain ⟨tm, hMost⟩ := T.most
  refine ⟨f, fd, M, F.ok (k := 3) sc_Limits___init__ (fun vs H Q E h => ?_) (fun cdv A outer s H vs Q E hr h => ?_), F.binds fun _ _ _ _ _ _ us hl => match us, hl with | [_, _, _], _ => rfl⟩
  · obtain ⟨G, p, dx, v1, v2, s1, s2, n, m, st, rfl, _⟩ := h
    rfl
  · obtain ⟨G, p, dx, v1, v2, s1, s2, n, m, st, rfl, eG, gp, hp, r1, r2, hs1, hs2, hn1, hn2, nm, nst, k⟩ := h
    refine ⟨_,
(pss_cons (ps_if (PW.pt (pw_or (pt_not (pt_tru (pe_isiT T.bi (pv 1) (pe_tup (pa_cons (pe_tyList T.bi) (pa_cons (pe_tyTuple T.bi) pa_nil)))))) (pw_or1 (pt_not (pt_chain op_le op_le pe_int (pe_len T.bi (pv 1)) (pe_glob (v := .int 24) rfl hMost ⟨_, rfl⟩)))))) (pss_one ps_never) pss_nil)
    (pss_cons (ps_for PassesOwn.never rfl (pi_range1 rfl T.bi.range (pa_cons (pe_len T.bi (pv 1)) pa_nil)) (pg_name (i := 3) sc_Limits___init__.nd rfl (Or.inl rfl)) (pss_one (ps_if (pt_not (pt_tru (pe_cal C_is_bound hr (by decide) rfl (pa_cons (pe_ix ix_seq (pv 1) (pv 3) (fun _ _ => rfl)) pa_nil)))) (pss_one ps_never) pss_nil)))
    (pss_cons (ps_if (PW.pt (pw_or (pt_not (pt_tru (pe_isiT T.bi (pv 2) (pe_tup (pa_cons (pe_tyList T.bi) (pa_cons (pe_tyTuple T.bi) pa_nil)))))) (pw_or1 (pt_cmpR (op_neD hr.units) (pe_len T.bi (pv 2)) (pe_op op_sub (pe_len T.bi (pv 1)) pe_int) (nomark _))))) (pss_one ps_never) pss_nil)
    (pss_cons (ps_for PassesOwn.never rfl (pi_range1 rfl T.bi.range (pa_cons (pe_len T.bi (pv 2)) pa_nil)) (pg_name (i := 3) sc_Limits___init__.nd rfl (Or.inl rfl)) (pss_one (ps_if (pt_not (pt_tru (pe_cal C_is_bound hr (by decide) rfl (pa_cons (pe_ix ix_seq (pv 2) (pv 3) (fun _ _ => rfl)) pa_nil)))) (pss_one ps_never) pss_nil)))
    (pss_cons (ps_fld (pv 0) (pe_tuple T.bi (pv 1)) rfl)
    (pss_one (ps_fld (pv 0) (pe_tuple T.bi (pv 2)) rfl)))))))
      , ?_⟩
    have E0 : Env ⟨K, G, H, none⟩ [some (.ref p), some v1, some v2, none] G H [.raw (.ref p), .dt s1, .dt s2, .no] := {
      gd := ⟨eG, Ex.refl G, fun a h1 h2 => ⟨h2, fun _ => rfl⟩, fun l z => by cases z⟩
      len := rfl
      sl := fun i s h => by
        match i, h with
        | 0, h => cases h; exact rfl
        | 1, h => cases h; exact ⟨v1, rfl, r1⟩
        | 2, h => cases h; exact ⟨v2, rfl, r2⟩
        | 3, h => cases h; trivial
      own := fun i j xs ys a h => by
        match i, h with
        | 0, h => cases h
        | 1, h => cases h
        | 2, h => cases h
        | 3, h => cases h }
    obtain ⟨le1, le2⟩ := le_sizes hn1 hn2
    have sh1 := shD_seqTab hs1
    have sh2 := shD_seqTab hs2
    dsimp only [cxOf, Cx.nox, Cx.wish]
    refine (?_ : DSr ⟨K, G, H, none⟩ _ [.raw (.ref p), .dt s1, .dt s2, .no] _) _ G H E0
    have il1 := isLT_seq hs1
    have il2 := isLT_seq hs2
    walk_at "dd"
    refine ite_f (by rw [il1]; rfl) ?_
    walk_at "dd"
    refine .inl ⟨_, hs1, ?_⟩
    rw [tab_len]
    walk_at "dd"
    refine ite_t le1 ?_
    walk_at "dd"
    refine ite_f (by rw [le2]; rfl) ?_
    walk_at "dd"
    refine ds_forR1 (fun i ρ => ∃ x, ρ = [.raw (.ref p), .dt s1, .dt s2, x]) ?_
    walk_at "dd"
    refine .inl ⟨_, hs1, ?_⟩
    rw [tab_len]
    walk_at "dd"
    refine ⟨bR_small (by omega) (by omega), ⟨_, rfl⟩, ?_, ?_⟩
    · rintro i ρ hi ⟨x, rfl⟩
      refine dg_name0 rfl ?_
      walk_at "set"
      walk_at "dd"
      refine ⟨_, _, _, hs1, rfl, tab_at (k := i) _ (by omega) rfl, ?_⟩
      walk_at "dd"
      refine ⟨_, rfl, nm i (by omega), ?_⟩
      walk_at "dd"
      exact ⟨_, rfl⟩
    rintro ρ ⟨x, rfl⟩
    walk_at "dd"
    refine ite_f (by rw [il2]; rfl) ?_
    walk_at "dd"
    refine .inl ⟨_, hs2, ?_⟩
    rw [tab_len]
    walk_at "dd"
    refine .inl ⟨_, hs1, ?_⟩
    rw [tab_len]
    walk_at "dd"
    rw [deq_int]
    refine ite_f (by simp; omega) ?_
    walk_at "dd"
    refine ds_forR1 (fun i ρ => ∃ x, ρ = [.raw (.ref p), .dt s1, .dt s2, x]) ?_
    walk_at "dd"
    refine .inl ⟨_, hs2, ?_⟩
    rw [tab_len]
    walk_at "dd"
    refine ⟨bR_small (by omega) (by omega), ⟨_, rfl⟩, ?_, ?_⟩
    · rintro i ρ hi ⟨x, rfl⟩
      refine dg_name0 rfl ?_
      walk_at "set"
      walk_at "dd"
      refine ⟨_, _, _, hs2, rfl, tab_at (k := i) _ (by omega) rfl, ?_⟩
      walk_at "dd"
      refine ⟨_, rfl, nst i (by omega), ?_⟩
      walk_at "dd"
      exact ⟨_, rfl⟩
    rintro ρ ⟨x, rfl⟩
    intro σ G1 H1 I
    have I : Env ⟨K, G, H, none⟩ σ G1 H1 [.raw (.ref p), .dt s1, .dt s2, .no] := I.weak rfl fun i s h => by
      match i, h with
      | 0, h => exact .inr h
      | 1, h => exact .inr h
      | 2, h => exact .inr h
      | 3, h => cases h; exact .inl rfl
    have d1 : DE ⟨K, G, H, none⟩ (tCB (rTupD K) (tCons (tVar 1) tNil)) [.raw (.ref p), .dt s1, .dt s2, .no] fun d => d = .tup (tab n m) := de_tuple (de_var rfl ⟨_, hs1, rfl⟩)
    refine d1 σ G1 H1 I _ fun u1 d G2 H2 sp r e => ?_
    subst e
    have I2 := I.step sp
    have pH : H p ≠ none := by rw [hp]; exact fun z => by cases z
    have k2 := I2.gd.fr p pH gp
    have hp2 : H2 p = some (.ins CL dx []) := (k2.2 (fun z => by cases z)).trans hp
    refine ⟨.ref p, I2.sl 0 _ rfl, p, CL, dx, [], rfl, hp2, T.oL.cl, T.nMosts, by show 0 < 1000; decide, ?_⟩
    have e3 : Ex G2 (upd H2 p (.ins CL dx (putF "mosts" u1 []))) := fun b u z => by
      rw [upd_ne (fun z2 => by rw [z2, k2.1] at z; cases z)]
      exact I2.gd.gh _ _ z
    have I3 := I2.rebase e3 fun i xs h => by
      match i, h with
      | 0, h => cases h
      | 1, h => cases h
      | 2, h => cases h
      | 3, h => cases h
    have d2 : DE ⟨K, G2, upd H2 p (.ins CL dx (putF "mosts" u1 [])), none⟩ (tCB (rTupD K) (tCons (tVar 2) tNil)) [.raw (.ref p), .dt s1, .dt s2, .no] fun d => d = .tup (tab (n - 1) st) := de_tuple (de_var rfl ⟨_, hs2, rfl⟩)
    refine d2 σ G2 _ I3 _ fun u2 d G4 H4 sp2 r2' e => ?_
    subst e
    have I4 := I3.step sp2
    have k4 := I4.gd.fr p (by show upd H2 p _ p ≠ none; rw [upd_same]; exact fun z => by cases z) k2.1
    have hp4 : H4 p = some (.ins CL dx (putF "mosts" u1 [])) := (k4.2 (fun z => by cases z)).trans upd_same
    refine ⟨.ref p, I4.sl 0 _ rfl, p, CL, dx, _, rfl, hp4, T.oL.cl, T.nSteps, by show 1 < 1000; decide, ?_⟩
    refine k u1 u2 G4 _ ((I2.gd.g0).trans sp2.gg) (fun b u z => ?_) (fun a h1 h2 => ?_) k4.1 (r.mono sp2.gg) r2' (by rw [upd_same, putF_two (by decide +kernel)])
    · rw [upd_ne (fun z2 => by rw [z2, k4.1] at z; cases z)]
      exact I4.gd.gh _ _ z
    · obtain ⟨q1, q2⟩ := I2.gd.fr a h1 h2
      by_cases ha : a = p
      · exact ⟨by rw [ha]; exact k4.1, fun z => absurd ha z⟩
      · have q3 := q2 (fun z => by cases z)
        have q4 : upd H2 p (.ins CL dx (putF "mosts" u1 [])) a = H a := by rw [upd_ne ha]; exact q3
        obtain ⟨q5, q6⟩ := I4.gd.fr a (by show upd H2 p _ a ≠ none; rw [q4]; exact h1) q1
        exact ⟨q5, fun _ => by rw [upd_ne ha]; exact (q6 (fun z => by cases z)).trans q4⟩
/-! ### len of limits -/
def p_Limits_len (CL : Addr) (ds : List Dt) (Q : Dt → Prop) : Prop := ∃ (n : Nat) (m st : Nat → Option Rat), ds = [limO CL n m st] ∧ Q (.int n)
def CalLen (P : Program) (w : World) (K : PySem.W.Frag) (mg : Str → Option Value) (base : Heap) (CL : Addr) : Prop :=
  ∃ f fd, FnOk P w K mg base CX0 1 f fd ["self"] (spD K (p_Limits_len CL)) ∧ PySem.W.findIn K (.ref CL) "__len__" = some (some (.ref f)) ∧ PySem.W.isFn K (.ref f) = true ∧ Binds K fd ["self"] []
theorem ok_Limits_len (T : Txt K mg CL CC CB) {f : Addr} {fd : FuncData} (F : Fun K "__len__" "Limits.__len__" s_Limits___len__ f fd) (hf : PySem.W.findIn K (.ref CL) "__len__" = some (some (.ref f))) (hi : PySem.W.isFn K (.ref f) = true) : CalLen P w K mg base CL := by
  refine ⟨f, fd, ok_D (k := 0) F sc_Limits___len__ (fun ds Q h => ?_) (fun cdv A outer s H E hr => ⟨_,
(pss_one (ps_ret (pe_len T.bi (pe_fld (pv 0) rfl))))
    , fun G0 H0 ds Q h => ?_⟩), hf, hi, F.binds fun _ _ _ _ _ _ us hl => match us, hl with | [_], _ => rfl⟩
  · obtain ⟨n, m, st, rfl, _⟩ := h
    rfl
  · obtain ⟨n, m, st, rfl, k⟩ := h
    change DS _ _ [_] _
    try dsimp only [cxOf, Cx.nox, Cx.wish]
    walk_at "dd"
    refine ⟨CL, _, _, _, rfl, T.oL.cl, T.nMosts, rfl, ?_⟩
    refine .inl ⟨_, .inr rfl, ?_⟩
    rw [tab_len]
    exact k
end
open PySem.Spec PyProof.Rows in
/-- the callee runs one C frame deeper -/
theorem run_fn1 {X : Cx} {CX : CXT} {k : Nat} {f : Addr} {fd : FuncData} {ps : List Str} {sp : Sp} {dvs : List V} {ds : List Value} {E : XK} {pins : List (Addr × Obj)} {σ : L2.St} {H : Hp} {s : Shared} {Q : VK} {us : List Value} {vs : List V} (F : FnOk X.prog X.w X.K X.mg X.base CX k f fd ps sp) (hr : Room (k + 1) X.A) (hb : Binds X.K fd ps ds) (hd : Vals dvs ds) (hx : Passes CX X E)
    (I : Inv X pins σ H s) (r : Vals vs us) (h : sp (vs ++ dvs) H Q E) : wpAny (model X.prog X.w) X.A.in1 (call (.ref f) us) (EP X pins σ Q) X.xe s := by
  have r2 : Vals (vs ++ dvs) (us ++ ds) := r.append hd
  have hl : (us ++ ds).length = ps.length := by rw [← r2.length]; exact F.len _ _ _ _ h
  refine wpAny_call (codeAny_mono (F.run X.A.in1 X.stack s H ⟨us, []⟩ (us ++ ds) (vs ++ dvs) Q E hr.in1 I.env0.in1 (hb s us I.kIn hl) r2 h) fun r s' hq => ?_)
  cases r with
  | error e => exact hx pins σ H s e s' I hq
  | ok fl =>
    cases fl with
    | ret u => exact I.after hq
    | next => exact False.elim hq
    | brk => exact False.elim hq
    | cont => exact False.elim hq
def rLenLim (K : PySem.W.Frag) (CL : Addr) : List V → Hp → VK → Prop := fun xs H Q => ∃ (a dx : Addr) (fs : List (Str × V)), xs = [.ref a] ∧ H a = some (.ins CL dx fs) ∧ spD K (p_Limits_len CL) [.ref a] H (fun v H' => ∃ i, v = .int i ∧ 0 ≤ i ∧ i < 2 ^ 63 ∧ Q (.int i) H') E0
theorem call_lenLim {X : Cx} {CL : Addr} {k : Nat} (C : CalLen X.prog X.w X.K X.mg X.base CL) (cl : Cls X.K CL) (hr : Room k X.A) (hj : 2 ≤ k) : CallR X (.builtin "len") (rLenLim X.K CL) := by
  intro pins s σ H xs us Q I r h
  obtain ⟨a, dx, fs, rfl, ha, h⟩ := h
  obtain ⟨u, rfl, ru⟩ := vals1 r
  obtain rfl : u = Value.ref a := ru
  obtain ⟨f, fd, F, hf, hi, hb⟩ := C
  obtain ⟨m, fr⟩ := I.fr
  obtain ⟨mA, O, _⟩ := ins_get I.hok ha
  obtain ⟨od, J, _⟩ := O.look
  refine PySem.W.len_K fr I.ok.mod.kin J hf hi (thn (run_fn1 F (hr.mono hj) hb .nil pass0 I (vs := [.ref a]) (.cons (show RelV (.ref a) (Value.ref a) from rfl) .nil) h) fun v s' hq => ?_)
  obtain ⟨v', H', I', rv, i, rfl, h0, h1, q⟩ := hq
  obtain ⟨t, rfl⟩ := rv
  exact ⟨⟨h0, h1⟩, .int i, H', I'.tok _, ⟨_, rfl⟩, q⟩
theorem pe_lenLim {X : Cx} {CL CC CB : Addr} {k : Nat} {a : PySem.Expr} {ta : TE} {p pos : Pos} (T : Txt X.K X.mg CL CC CB) (C : CalLen X.prog X.w X.K X.mg X.base CL) (hr : Room k X.A) (hj : 2 ≤ k) (ha : PE X a ta) (hg : Gl X "len" := by rfl) (he : starEach (a :: []) X.env = (false, eval a X.env) :: starEach [] X.env := by rfl) :
    PE X (.Call (.Name "len" p) [a] [] pos) (tCB (rLenLim X.K CL) (tCons ta tNil)) := pe_callB (call_lenLim C T.oL.cl hr hj) hg T.bi.len (by decide +kernel) (pa_cons ha pa_nil he) (by decide) (by decide) he rfl
theorem de_lenLim {c : Ctx} {CL : Addr} {ta : TE} {ρ : List Sl} {P : Dt → Prop} (h : DE c ta ρ fun d => ∃ n m st, d = limO CL n m st ∧ n ≤ 24 ∧ P (.int (n : Nat))) : DE c (tCB (rLenLim c.K CL) (tCons ta tNil)) ρ P := fun σ G H E Q q =>
  h σ G H E _ fun v d G1 H1 s1 r1 h1 => by
    obtain ⟨n, m, st, rfl, hn, h2⟩ := h1
    have r1' := r1
    cases r1 with
    | @ob a _ dx _ ys _ g1 g2 r =>
      refine ⟨a, dx, _, rfl, s1.gh _ _ g1, G1, [limO CL n m st], (fun d => d = .int n), s1.gh, .cons r1' .nil, ⟨n, m, st, rfl, rfl⟩, fun v d G' H' gg gh fr rv e => ?_⟩
      subst e
      cases rv
      exact ⟨n, rfl, by omega, by omega, q _ _ G' H' (s1.trans ((E.gd.step s1).stp gg gh fr)) (.int _) h2⟩
end K20
namespace K20
open PySem L2
open Evl (Ex)
open PyProof.Rows (envOfC)
/-! F6: tightened limits, clashes. -/
structure LimOk (n : Nat) (m st : Nat → Option Rat) (D : Nat) : Prop where
  n1 : 1 ≤ n
  n2 : n ≤ 24
  gr : Gr D
  nm : NiF D 1 m
  ns : NiF D 1 st
  pm : NNs m
  ps : NNs st
theorem LimOk.led {n : Nat} {m st : Nat → Option Rat} {D : Nat} (l : LimOk n m st D) {k : Nat} (hk : k < n) : NiB D 25 (ledF n m st k) := (l.nm.led l.ns l.ps hk).mono (by have := l.n2; omega)
theorem LimOk.dist {n : Nat} {m st : Nat → Option Rat} {D : Nat} (l : LimOk n m st D) {i j : Nat} (hi : i < n) (hj : j < n) : NiB D 24 (dist st i j) := (l.ns.dist hi hj).mono (by have := l.n2; omega)
def tightS (n : Nat) (m st : Nat → Option Rat) (k : Nat) : Option Rat := minB (st k) (addB (ledF n m st k) (ledF n m st (k + 1)))
def p_tighten (CL : Addr) (ds : List Dt) (Q : Dt → Prop) : Prop := ∃ (n : Nat) (m st : Nat → Option Rat) (D : Nat), ds = [limO CL n m st] ∧ LimOk n m st D ∧ Q (limO CL n (ledF n m st) (tightS n m st))
theorem len_tighten {CL : Addr} {ds : List Dt} {Q : Dt → Prop} (h : p_tighten CL ds Q) : ds.length = 1 := by
  obtain ⟨_, _, _, _, rfl, _⟩ := h; rfl
def p_law_tight (ds : List Dt) (Q : Dt → Prop) : Prop := ∃ (n : Nat) (m st : Nat → Option Rat) (D : Nat), ds = [lim n m st] ∧ LimOk n m st D ∧ Q (.tup [.tup (tab n (ledF n m st)), .tup (tab (n - 1) (tightS n m st))])
theorem len_law_tight {ds : List Dt} {Q : Dt → Prop} (h : p_law_tight ds Q) : ds.length = 1 := by
  obtain ⟨_, _, _, _, rfl, _⟩ := h; rfl
def p_law_made (CL : Addr) (ds : List Dt) (Q : Dt → Prop) : Prop := ∃ (n : Nat) (m st : Nat → Option Rat) (D : Nat), ds = [lim n m st] ∧ LimOk n m st D ∧ Q (limO CL n m st)
theorem len_law_made {CL : Addr} {ds : List Dt} {Q : Dt → Prop} (h : p_law_made CL ds Q) : ds.length = 1 := by
  obtain ⟨_, _, _, _, rfl, _⟩ := h; rfl
/-! ### known values as data -/
theorem kn_get {ks : List (Nat × Rat)} {i : Nat} {x : Dt} (h : (ks.map kn1)[i]? = some x) : ∃ p, ks[i]? = some p ∧ x = kn1 p := by
  rw [List.getElem?_map] at h
  cases e : ks[i]? with
  | none => rw [e] at h; cases h
  | some p => rw [e] at h; cases h; exact ⟨p, rfl, rfl⟩
theorem cut_from {xs : List Dt} {i : Nat} (h : i ≤ xs.length) : cutD xs (some (i : Int)) none = xs.drop i := by
  unfold cutD
  rw [sIx_some, HT.sIx_none, Nat.min_eq_left h, List.take_of_length_le (by rw [List.length_drop]; omega)]
theorem cut_to {xs : List Dt} {i : Nat} (h : i ≤ xs.length) : cutD xs none (some (i : Int)) = xs.take i := by
  unfold cutD
  rw [sIx_some, HT.sIx_none, Nat.min_eq_left h, List.drop_zero, Nat.sub_zero]
theorem find_at {α : Type} {P : α → Bool} {ks : List α} {i : Nat} {p : α} (h : ks[i]? = some p) (h0 : (ks.take i).find? P = none) (hp : P p = true) : ks.find? P = some p := by
  obtain ⟨hi, e⟩ := List.getElem?_eq_some_iff.mp h
  have e2 : ks = ks.take i ++ p :: ks.drop (i + 1) := by
    rw [← e, ← List.drop_eq_getElem_cons hi, List.take_append_drop]
  rw [e2, List.find?_append, h0, List.find?_cons, hp]
  rfl
theorem find_next {α : Type} {P : α → Bool} {ks : List α} {i : Nat} {p : α} (h : ks[i]? = some p) (h0 : (ks.take i).find? P = none) (hp : P p = false) : (ks.take (i + 1)).find? P = none := by
  rw [List.take_add_one, h, List.find?_append, h0]
  show List.find? P [p] = none
  rw [List.find?_cons, hp]
  rfl
def clashG (L st : Nat → Option Rat) (ks : List (Nat × Rat)) : Option (Nat × Nat) :=
  match ks.find? (fun p => passB (some (absR p.2)) (L p.1)) with
  | some p => some (p.1, p.1)
  | none => pairsF st ks
theorem clashF_eq (n : Nat) (m st : Nat → Option Rat) (ks : List (Nat × Rat)) : clashF n m st ks = clashG (ledF n m st) st ks := rfl
def clD (CC : Addr) : Option (Nat × Nat) → Dt
  | none => .non
  | some (a, b) => clO CC a b
def clT : Option (Nat × Nat) → Dt
  | none => .non
  | some (a, b) => .tup [.int a, .int b]
structure KnOk (n : Nat) (ks : List (Nat × Rat)) (D c : Nat) : Prop where
  st : KnSt n ks
  ni : ∀ p ∈ ks, Ni D c p.2
  len : ks.length ≤ n
  c0 : c ≤ 1000
def p_clash_of (CL CC : Addr) (ds : List Dt) (Q : Dt → Prop) : Prop := ∃ (n : Nat) (L st S : Nat → Option Rat) (ks : List (Nat × Rat)) (D c : Nat), ds = [limO CL n L S, .tup (tab (n - 1) st), kn ks] ∧ n ≤ 24 ∧ Gr D ∧ NiF D 1 st ∧ (∀ k, k < n → NiB D 25 (L k)) ∧ KnOk n ks D c ∧ Q (clD CC (clashG L st ks))
theorem len_clash_of {CL CC : Addr} {ds : List Dt} {Q : Dt → Prop} (h : p_clash_of CL CC ds Q) : ds.length = 3 := by
  obtain ⟨_, _, _, _, _, _, _, rfl, _⟩ := h; rfl
def p_law_clash (ds : List Dt) (Q : Dt → Prop) : Prop := ∃ (n : Nat) (m st : Nat → Option Rat) (ks : List (Nat × Rat)) (D c : Nat), ds = [lim n m st, kn ks] ∧ LimOk n m st D ∧ KnOk n ks D c ∧ Q (clT (clashF n m st ks))
theorem len_law_clash {ds : List Dt} {Q : Dt → Prop} (h : p_law_clash ds Q) : ds.length = 2 := by
  obtain ⟨_, _, _, _, _, _, rfl, _⟩ := h; rfl
theorem pairs_drop {st : Nat → Option Rat} {ks : List (Nat × Rat)} {i : Nat} {p : Nat × Rat} (h : ks[i]? = some p) : pairsF st (ks.drop i) = match (ks.drop (i + 1)).find? (fun q => passB (some (absR (p.2 - q.2))) (dist st p.1 q.1)) with
    | some q => some (p.1, q.1)
    | none => pairsF st (ks.drop (i + 1)) := by
  obtain ⟨hi, e⟩ := List.getElem?_eq_some_iff.mp h
  rw [List.drop_eq_getElem_cons hi, e]
  rfl
theorem kn_lt {n : Nat} {ks : List (Nat × Rat)} (h : KnSt n ks) {i j : Nat} {p q : Nat × Rat} (hp : ks[i]? = some p) (hq : (ks.drop (i + 1))[j]? = some q) : p.1 < q.1 := by
  rw [List.getElem?_drop] at hq
  obtain ⟨hi, e1⟩ := List.getElem?_eq_some_iff.mp hp
  obtain ⟨hj, e2⟩ := List.getElem?_eq_some_iff.mp hq
  have := List.pairwise_iff_getElem.mp h.1 i (i + 1 + j) hi hj (by omega)
  rwa [e1, e2] at this
local macro_rules | `(tactic| walk_at "d1") => `(tactic| first
  | with_reducible refine ds_seq ?_
  | with_reducible refine dsr_seq ?_
  | with_reducible refine ds_ret ?_
  | with_reducible refine ds_retN ?_
  | with_reducible refine ds_next ?_
  | with_reducible refine ds_own rfl (dl_list ?_)
  | with_reducible refine ds_own rfl (dl_lst ?_)
  | with_reducible refine ds_app rfl ?_ ?_
  | with_reducible refine ds_put rfl ?_
  | with_reducible refine ds_set rfl ?_
  | with_reducible refine ds_asg ?_
  | with_reducible refine ds_if ?_
  | with_reducible refine ds_par rfl rfl ?_
  | with_reducible refine de_var rfl ?_
  | with_reducible refine de_int ?_
  | with_reducible refine de_bl ?_
  | with_reducible refine de_non ?_
  | with_reducible refine de_str ?_
  | with_reducible refine de_add ?_
  | with_reducible refine de_mul ?_
  | with_reducible refine de_ix_own rfl ?_
  | with_reducible refine de_ix ?_
  | with_reducible refine de_call ?_
  | with_reducible refine de_callH rfl ?_
  | with_reducible refine de_callD (dds := [.non, .non]) (fun _ => .cons .non (.cons .non .nil)) ?_
  | with_reducible refine de_callD (dds := [.non]) (fun _ => .cons .non .nil) ?_
  | with_reducible refine de_chainI ?_
  | with_reducible refine de_opI0 ?_
  | with_reducible refine de_opI ?_
  | with_reducible refine de_opB0 ?_
  | with_reducible refine de_isN ?_
  | with_reducible refine de_notN ?_
  | with_reducible refine de_eqD ?_
  | with_reducible refine de_ne_own rfl ?_
  | with_reducible refine de_neD ?_
  | with_reducible refine de_neg ?_
  | with_reducible refine de_len_own rfl ?_
  | with_reducible refine de_len ?_
  | with_reducible refine de_int1 ?_
  | with_reducible refine de_abs ?_
  | with_reducible refine de_min2 ?_
  | with_reducible refine de_max2 ?_
  | with_reducible refine de_tuple_own rfl ?_
  | with_reducible refine de_tup ?_
  | with_reducible refine de_if ?_
  | with_reducible refine de_isBl ?_
  | with_reducible refine de_isIn ?_
  | with_reducible refine de_isTu ?_
  | with_reducible refine de_isLT ?_
  | with_reducible refine de_andV ?_
  | with_reducible refine de_orV ?_
  | with_reducible refine de_notT ?_
  | with_reducible refine de_fld ?_
  | with_reducible refine de_slice ?_
  | with_reducible refine do_none ?_
  | with_reducible refine do_some ?_
  | with_reducible refine dt_test ?_
  | with_reducible refine dt_tru ?_
  | with_reducible refine dt_and ?_
  | with_reducible refine dt_or ?_
  | with_reducible refine dt_not ?_
  | with_reducible refine da_cons ?_
  | with_reducible refine da_nil ?_
  | with_reducible refine de_lst ?_
  | with_reducible refine de_of_dl (dl_list ?_)
  | with_reducible refine de_mkLimits ?_
  | with_reducible refine de_mkClash ?_
  | with_reducible refine de_lenLim ?_)
local macro_rules | `(tactic| walk_at "d2") => `(tactic| first
  | walk_at "d1"
  | with_reducible refine iteT ?_
  | with_reducible refine iteF ?_
  | with_reducible refine ite_f Bool.not_true ?_
  | with_reducible refine ite_t Bool.not_false ?_
  | (with_reducible refine Exists.intro _ (Exists.intro _ (And.intro rfl (And.intro rfl ?_))))
  | (with_reducible refine Exists.intro _ (And.intro rfl ?_))
  | (with_reducible refine .inl (Exists.intro _ (Exists.intro _ (And.intro rfl (And.intro rfl ?_)))))
  | (refine ⟨_, _, _, .inr rfl, rfl, rfl, ?_⟩)
  | (refine ⟨Nat.le_of_ble_eq_true rfl, ?_⟩)
  | (with_reducible refine And.intro rfl ?_)
  | (with_reducible refine And.intro (by walk_at "mul") ?_)
  | (with_reducible refine And.intro (by walk_at "shd") ?_))
local macro_rules | `(tactic| walk_at "dd") => `(tactic| (repeat walk_at "d2"))
local macro_rules | `(tactic| walk_at "set") => `(tactic| simp only [List.set_cons_zero, List.set_cons_succ])
local macro_rules | `(tactic| walk_at "mul") => `(tactic| first
  | exact mul_nd (by assumption) (by assumption) | exact mul_nn (by assumption) (by assumption) | exact mul_dd (by assumption) (by assumption))
local macro_rules | `(tactic| walk_at "shd") => `(tactic| first
  | exact shD_int _ | exact shD_non | exact shD_rat _ | exact shD_tupTab _ _ | with_reducible assumption)
local macro_rules | `(tactic| walk_at "tg") => `(tactic| refine dg_tup ⟨_, rfl, rfl, dgs_cons (dg_name0 rfl (dgs_cons (dg_name0 rfl (dgs_nil ?_))))⟩)
local macro_rules | `(tactic| walk_at "wp") => `(tactic| simp only [wipeD, List.map_cons, List.map_nil, List.set_cons_zero, List.set_cons_succ])
section
variable {P : Program} {w : World} {K : PySem.W.Frag} {mg : Str → Option Value} {base : Heap} {CL CC CB : Addr}
theorem ok_tighten (T : Txt K mg CL CC CB) (D : Def K mg "tighten" s_tighten) (C_led_along : Cal P w K mg base "led_along" 5 ["starts", "steps"] (spD K p_led_along)) (C_lesser_bound : Cal P w K mg base "lesser_bound" 2 ["one", "other"] (spD K p_lesser_bound)) (C_bounds_added : Cal P w K mg base "bounds_added" 4 ["one", "other"] (spD K p_bounds_added)) (C_Limits : MkLimits P w K mg base CL) :
    Cal P w K mg base "tighten" 6 ["limits"] (spD K (p_tighten CL)) := by
  obtain ⟨f, fd, F, hg⟩ := D
  refine ⟨f, fd, ok_D (k := 5) F sc_tighten (fun ds Q h => len_tighten h) (fun cdv A outer s H E hr => ⟨_, (pss_cons (ps_set (i := 1) sc_tighten.nd rfl (Or.inl rfl) (pe_cal C_led_along hr (by decide) rfl (pa_cons (pe_fld (pv 0) rfl) (pa_cons (pe_fld (pv 0) rfl) pa_nil))))
    (pss_cons (ps_set (i := 2) sc_tighten.nd rfl (Or.inl rfl) (pe_lst pa_nil))
    (pss_cons (ps_for PassesOwn.never rfl (pi_range2 rfl T.bi.range (pa_cons pe_int (pa_cons (pe_len T.bi (pv 1)) pa_nil))) (pg_name (i := 3) sc_tighten.nd rfl (Or.inl rfl)) (pss_one (ps_expr (pe_bm PySem.F.plainAttrs_list PySem.F.slot_list_append PySem.F.type_list_append mt_append (pv 2) (pa_cons (pe_cal C_lesser_bound hr (by decide) rfl (pa_cons (pe_ix ix_seq (pe_fld (pv 0) rfl) (pe_op op_sub (pv 3) pe_int) (fun _ _ => rfl)) (pa_cons (pe_cal C_bounds_added hr (by decide) rfl (pa_cons (pe_ix ix_seq (pv 1) (pe_op op_sub (pv 3) pe_int) (fun _ _ => rfl)) (pa_cons (pe_ix ix_seq (pv 1) (pv 3) (fun _ _ => rfl)) pa_nil))) pa_nil))) pa_nil)))))
    (pss_one (ps_ret (pe_mkLimits T C_Limits hr (by decide) rfl (pa_cons (pv 1) (pa_cons (pv 2) pa_nil)))))))), fun G0 H0 ds Q h => ?_⟩), hg, F.kp, F.binds fun _ _ _ _ _ _ us hl => match us, hl with | [_], _ => rfl⟩
  try dsimp only [cxOf, Cx.nox, Cx.wish]
  obtain ⟨n, m, st, D, rfl, l, k⟩ := h
  change DS _ _ [_, .no, .no, .no] _
  have hn1 := l.n1
  have hn2 := l.n2
  have smT : ∀ j, SmB (st j) := fun j => l.gr.sm (l.ns j) (by omega)
  have smL : ∀ j, j < n → SmB (ledF n m st j) := fun j hj => l.gr.sm (l.led hj) (by omega)
  walk_at "dd"
  refine ⟨CL, _, _, _, rfl, T.oL.cl, T.nMosts, rfl, ?_⟩
  walk_at "dd"
  refine ⟨CL, _, _, _, rfl, T.oL.cl, T.nSteps, rfl, ?_⟩
  walk_at "dd"
  refine ⟨_, n, m, st, D, 1, rfl, .inr rfl, hn1, hn2, l.gr, l.nm, l.ns, by omega, l.ps, ?_⟩
  walk_at "dd"
  walk_at "set"
  refine ds_forR2 (fun i ρ => ∃ x, ρ = [.dt (limO CL n m st), .dt (.lst (tab n (ledF n m st))), .own (tab i (tightS n m st)), x]) ?_
  walk_at "dd"
  refine .inl ⟨_, .inl rfl, ?_⟩
  rw [tab_len]
  walk_at "dd"
  refine ⟨_, _, rfl, bR_small (by omega) (by omega), bR_small (by omega) (by omega), ⟨_, rfl⟩, ?_, ?_⟩
  · rintro i ρ hi ⟨x, rfl⟩
    refine dg_name0 rfl ?_
    walk_at "set"
    walk_at "dd"
    · rw [tab_len]; omega
    walk_at "dd"
    refine ⟨CL, _, _, _, rfl, T.oL.cl, T.nSteps, rfl, ?_⟩
    walk_at "dd"
    refine ⟨_, _, _, .inr rfl, rfl, tab_at (k := i) _ (by omega) (by omega), ?_⟩
    walk_at "dd"
    refine ⟨_, _, _, .inl rfl, rfl, tab_at (k := i) _ (by omega) (by omega), ?_⟩
    walk_at "dd"
    refine ⟨_, _, _, .inl rfl, rfl, tab_at (k := i + 1) _ (by omega) (by omega), ?_⟩
    walk_at "dd"
    refine ⟨_, _, rfl, smL _ (by omega), smL _ (by omega), ?_⟩
    walk_at "dd"
    refine ⟨_, _, rfl, smT _, l.gr.sm ((l.led (show i < n by omega)).add (l.led (show i + 1 < n by omega))) (by omega), ?_⟩
    walk_at "set"
    rw [show bd (minB (st i) (addB (ledF n m st i) (ledF n m st (i + 1)))) = bd (tightS n m st i) from rfl, ← tab_succ]
    exact ⟨_, rfl⟩
  · rintro ρ ⟨x, rfl⟩
    refine ds_freeze (i := 2) rfl ?_
    walk_at "set"
    walk_at "dd"
    rw [show ((n : Int) - 1).toNat = n - 1 by omega]
    refine ⟨n, ledF n m st, tightS n m st, .inl rfl, .inl rfl, hn1, hn2, fun j hj => led_nn l.ps (fun i _ => l.pm i) hj, fun j hj => ?_, k⟩
    exact le_min (l.ps j) ((led_nn l.ps (fun i _ => l.pm i) (by omega)).add (led_nn l.ps (fun i _ => l.pm i) (by omega)))
theorem ok_clash_of (T : Txt K mg CL CC CB) (D : Def K mg "clash_of" s_clash_of) (C_passes_bound : Cal P w K mg base "passes_bound" 2 ["one", "other"] (spD K p_passes_bound)) (C_size_of : Cal P w K mg base "size_of" 1 ["one"] (spD K p_size_of)) (C_distance_between : Cal P w K mg base "distance_between" 5 ["steps", "first", "second"] (spD K p_distance_between)) (C_minus : Cal P w K mg base "minus" 3 ["one", "other"] (spD K p_minus)) (C_Clash : MkClash P w K mg base CC) :
    Cal P w K mg base "clash_of" 6 ["tight", "steps", "values"] (spD K (p_clash_of CL CC)) := by
  obtain ⟨f, fd, F, hg⟩ := D
  refine ⟨f, fd, ok_D (k := 5) F sc_clash_of (fun ds Q h => len_clash_of h) (fun cdv A outer s H E hr => ⟨_, (pss_cons (ps_for PassesOwn.never rfl (pi_tup (pv 2)) (pg_tup rfl (pgs_cons (pg_name (i := 3) sc_clash_of.nd rfl (Or.inl rfl)) (pgs_cons (pg_name (i := 4) sc_clash_of.nd rfl (Or.inl rfl)) pgs_nil))) (pss_one (ps_if (pt_tru (pe_cal C_passes_bound hr (by decide) rfl (pa_cons (pe_cal C_size_of hr (by decide) rfl (pa_cons (pv 4) pa_nil)) (pa_cons (pe_ix ix_seq (pe_fld (pv 0) rfl) (pv 3) (fun _ _ => rfl)) pa_nil)))) (pss_one (ps_ret (pe_mkClash T C_Clash hr (by decide) rfl (pa_cons (pv 3) (pa_cons (pv 3) pa_nil))))) pss_nil)))
    (pss_cons (ps_for PassesOwn.never rfl (pi_range1 rfl T.bi.range (pa_cons (pe_len T.bi (pv 2)) pa_nil)) (pg_name (i := 5) sc_clash_of.nd rfl (Or.inl rfl)) (pss_cons (ps_asg (pe_ix ix_seq (pv 2) (pv 5) (fun _ _ => rfl)) (pg_tup rfl (pgs_cons (pg_name (i := 6) sc_clash_of.nd rfl (Or.inl rfl)) (pgs_cons (pg_name (i := 4) sc_clash_of.nd rfl (Or.inl rfl)) pgs_nil))))
    (pss_one (ps_for PassesOwn.never rfl (pi_tup (pe_slice sl_any (pv 2) (po_some (pe_op op_addA (pv 5) pe_int)) po_none)) (pg_tup rfl (pgs_cons (pg_name (i := 7) sc_clash_of.nd rfl (Or.inl rfl)) (pgs_cons (pg_name (i := 8) sc_clash_of.nd rfl (Or.inl rfl)) pgs_nil))) (pss_one (ps_if (pt_tru (pe_cal C_passes_bound hr (by decide) rfl (pa_cons (pe_cal C_size_of hr (by decide) rfl (pa_cons (pe_cal C_minus hr (by decide) rfl (pa_cons (pv 4) (pa_cons (pv 8) pa_nil))) pa_nil)) (pa_cons (pe_cal C_distance_between hr (by decide) rfl (pa_cons (pv 1) (pa_cons (pv 6) (pa_cons (pv 7) pa_nil)))) pa_nil)))) (pss_one (ps_ret (pe_mkClash T C_Clash hr (by decide) rfl (pa_cons (pv 6) (pa_cons (pv 7) pa_nil))))) pss_nil))))))
    (pss_one (ps_ret pe_non)))), fun G0 H0 ds Q h => ?_⟩), hg, F.kp, F.binds fun _ _ _ _ _ _ us hl => match us, hl with | [_, _, _], _ => rfl⟩
  try dsimp only [cxOf, Cx.nox, Cx.wish]
  obtain ⟨n, L, st, S, ks, D, c, rfl, hn2, gr, hst, hL, kk, k⟩ := h
  change DS _ _ [_, _, _, .no, .no, .no, .no, .no, .no] _
  have c0 := kk.c0
  have smL : ∀ j, j < n → SmB (L j) := fun j hj => gr.sm (hL j hj) (by omega)
  refine ds_seq ?_
  refine ds_forT (fun xs i ρ => ∃ x y, (ks.take i).find? (fun p => passB (some (absR p.2)) (L p.1)) = none ∧ ρ = [.dt (limO CL n L S), .dt (.tup (tab (n - 1) st)), .dt (kn ks), x, y, .no, .no, .no, .no]) ?_
  refine de_var rfl ⟨_, rfl, ⟨_, _, rfl, rfl⟩, ?_, ?_⟩
  · rintro i x ρ hx ⟨x1, x2, hf, rfl⟩
    obtain ⟨p, hp, rfl⟩ := kn_get hx
    have hpm := List.mem_of_getElem? hp
    have hpn := kk.st.2 p hpm
    have niP := kk.ni p hpm
    walk_at "tg"
    walk_at "set"
    walk_at "dd"
    refine ⟨p.2, rfl, ?_⟩
    walk_at "dd"
    refine ⟨CL, _, _, _, rfl, T.oL.cl, T.nMosts, rfl, ?_⟩
    walk_at "dd"
    refine ⟨_, _, _, .inr rfl, rfl, tab_at (k := p.1) _ hpn rfl, ?_⟩
    walk_at "dd"
    refine ⟨some (absR p.2), L p.1, rfl, gr.sm (NiB.some niP.abs) (by omega), smL _ hpn, ?_⟩
    cases e : passB (some (absR p.2)) (L p.1) with
    | true =>
      walk_at "dd"
      have : clashG L st ks = some (p.1, p.1) := by
        unfold clashG
        rw [find_at hp hf e]
      rw [this] at k
      exact k
    | false =>
      walk_at "dd"
      exact ⟨_, _, find_next hp hf e, rfl⟩
  · rintro ρ ⟨x1, x2, hf, rfl⟩
    rw [List.length_map, List.take_length] at hf
    have hG : clashG L st ks = pairsF st ks := by unfold clashG; rw [hf]
    rw [hG] at k
    refine ds_seq ?_
    refine ds_forR1 (fun i ρ => ∃ x3 x4 x5 x6 x7 x8, pairsF st (ks.drop i) = pairsF st ks ∧ ρ = [.dt (limO CL n L S), .dt (.tup (tab (n - 1) st)), .dt (kn ks), x3, x4, x5, x6, x7, x8]) ?_
    walk_at "dd"
    refine .inl ⟨_, .inr rfl, ?_⟩
    rw [List.length_map]
    walk_at "dd"
    have hlen := kk.len
    refine ⟨bR_small (by omega) (by omega), ⟨_, _, _, _, _, _, rfl, rfl⟩, ?_, ?_⟩
    · rintro i ρ hi ⟨x3, x4, x5, x6, x7, x8, hd, rfl⟩
      obtain ⟨p, hp⟩ : ∃ p, ks[i]? = some p := ⟨ks[i]'(by omega), List.getElem?_eq_getElem _⟩
      have hpm := List.mem_of_getElem? hp
      have hpn := kk.st.2 p hpm
      have niP := kk.ni p hpm
      rw [pairs_drop hp] at hd
      refine dg_name0 rfl ?_
      walk_at "set"
      walk_at "dd"
      refine ⟨_, _, _, .inr rfl, rfl, atI_nat (j := i) (v := kn1 p) (by rw [List.getElem?_map, hp]; rfl), ?_⟩
      walk_at "tg"
      walk_at "set"
      walk_at "dd"
      refine ds_forT (fun xs j ρ => ∃ y1 y2, ((ks.drop (i + 1)).take j).find? (fun q => passB (some (absR (p.2 - q.2))) (dist st p.1 q.1)) = none ∧ ρ = [.dt (limO CL n L S), .dt (.tup (tab (n - 1) st)), .dt (kn ks), x3, .dt (rat p.2), .dt (.int i), .dt (.int p.1), y1, y2]) ?_
      walk_at "dd"
      refine .inl ⟨_, rfl, ?_⟩
      rw [show ((i : Int) + 1) = ((i + 1 : Nat) : Int) by omega, cut_from (by rw [List.length_map]; omega), ← List.map_drop]
      refine ⟨_, rfl, ⟨_, _, rfl, rfl⟩, ?_, ?_⟩
      · rintro j y ρ hy ⟨y1, y2, hf, rfl⟩
        obtain ⟨q, hq, rfl⟩ := kn_get hy
        have hqm := List.mem_of_mem_drop (List.mem_of_getElem? hq)
        have hqn := kk.st.2 q hqm
        have niQ := kk.ni q hqm
        have hlt := kn_lt kk.st hp hq
        walk_at "tg"
        walk_at "set"
        walk_at "dd"
        refine ⟨p.2, q.2, rfl, niP.sm gr.pos gr.lt (by omega), niQ.sm gr.pos gr.lt (by omega), ?_⟩
        walk_at "dd"
        refine ⟨_, rfl, ?_⟩
        walk_at "dd"
        refine ⟨n - 1, p.1, q.1, st, D, rfl, by omega, by omega, by omega, gr, hst, ?_⟩
        walk_at "dd"
        refine ⟨some (absR (p.2 - q.2)), dist st p.1 q.1, rfl, gr.sm (NiB.some (niP.sub niQ).abs) (by omega), gr.sm (hst.dist hpn hqn) (by omega), ?_⟩
        cases e : passB (some (absR (p.2 - q.2))) (dist st p.1 q.1) with
        | true =>
          walk_at "dd"
          rw [find_at hq hf e] at hd
          rw [← hd] at k
          exact k
        | false =>
          walk_at "dd"
          exact ⟨_, _, find_next hq hf e, rfl⟩
      · rintro ρ ⟨y1, y2, hf, rfl⟩
        rw [List.length_map, List.take_length] at hf
        rw [hf] at hd
        exact ⟨_, _, _, _, _, _, hd, rfl⟩
    · rintro ρ ⟨x3, x4, x5, x6, x7, x8, hd, rfl⟩
      rw [show ((ks.length : Nat) : Int).toNat = ks.length from rfl, List.drop_length] at hd
      rw [← hd] at k
      walk_at "dd"
      exact k
theorem ok_law_tight (T : Txt K mg CL CC CB) (D : Def K mg "_law_tight" s_law_tight) (C_law_reach : Cal P w K mg base "_law_reach" 5 ["_law_starts", "_law_steps", "_law_place"] (spD K p_law_reach)) (C_law_least : Cal P w K mg base "_law_least" 2 ["_law_one", "_law_other"] (spD K p_law_least)) (C_law_added : Cal P w K mg base "_law_added" 4 ["_law_one", "_law_other"] (spD K p_law_added))  :
    Cal P w K mg base "_law_tight" 6 ["_law_limits"] (spD K p_law_tight) := by
  obtain ⟨f, fd, F, hg⟩ := D
  refine ⟨f, fd, ok_D (k := 5) F sc_law_tight (fun ds Q h => len_law_tight h) (fun cdv A outer s H E hr => ⟨_, (pss_cons (ps_asg (pv 0) (pg_tup rfl (pgs_cons (pg_name (i := 1) sc_law_tight.nd rfl (Or.inr rfl)) (pgs_cons (pg_name (i := 2) sc_law_tight.nd rfl (Or.inr rfl)) pgs_nil))))
    (pss_cons (ps_setLc (i := 3) (own := [("_law_k", 5)]) (g := gName 5) rfl sc_law_tight.nd rfl rfl (sw_true rfl rfl rfl (by decide +kernel)) (pi_range1 rfl T.bi.range (pa_cons (pe_len T.bi (pv 1)) pa_nil)) (blkOk_by (own := [("_law_k", 5)]) (N := ["_law_limits", "_law_mosts", "_law_steps", "_law_row", "_law_found", "_law_k"]) (sc := defScope s_law_tight) (by decide +kernel)) (fun _ _ _ _ _ => (pg_name (i := 5) sc_law_tight.nd rfl (Or.inl rfl))) (fun _ _ _ _ _ => pts_nil) (fun _ _ _ _ _ => (pe_cal C_law_reach hr (by decide) rfl (pa_cons (pv 1) (pa_cons (pv 2) (pa_cons (pv 5) pa_nil))))))
    (pss_cons (ps_set (i := 4) sc_law_tight.nd rfl (Or.inl rfl) (pe_lst pa_nil))
    (pss_cons (ps_for PassesOwn.never rfl (pi_range2 rfl T.bi.range (pa_cons pe_int (pa_cons (pe_len T.bi (pv 3)) pa_nil))) (pg_name (i := 5) sc_law_tight.nd rfl (Or.inl rfl)) (pss_one (ps_expr (pe_bm PySem.F.plainAttrs_list PySem.F.slot_list_append PySem.F.type_list_append mt_append (pv 4) (pa_cons (pe_cal C_law_least hr (by decide) rfl (pa_cons (pe_ix ix_seq (pv 2) (pe_op op_sub (pv 5) pe_int) (fun _ _ => rfl)) (pa_cons (pe_cal C_law_added hr (by decide) rfl (pa_cons (pe_ix ix_seq (pv 3) (pe_op op_sub (pv 5) pe_int) (fun _ _ => rfl)) (pa_cons (pe_ix ix_seq (pv 3) (pv 5) (fun _ _ => rfl)) pa_nil))) pa_nil))) pa_nil)))))
    (pss_one (ps_ret (pe_tup (pa_cons (pe_tuple T.bi (pv 3)) (pa_cons (pe_tuple T.bi (pv 4)) pa_nil))))))))), fun G0 H0 ds Q h => ?_⟩), hg, F.kp, F.binds fun _ _ _ _ _ _ us hl => match us, hl with | [_], _ => rfl⟩
  try dsimp only [cxOf, Cx.nox, Cx.wish]
  obtain ⟨n, m, st, D, rfl, l, k⟩ := h
  change DS _ _ [_, .no, .no, .no, .no, .no] _
  have hn1 := l.n1
  have hn2 := l.n2
  have smT : ∀ j, SmB (st j) := fun j => l.gr.sm (l.ns j) (by omega)
  have smL : ∀ j, j < n → SmB (ledF n m st j) := fun j hj => l.gr.sm (l.led hj) (by omega)
  refine ds_seq (ds_asg (de_var rfl ?_))
  walk_at "tg"
  walk_at "set"
  refine ds_seq (ds_own rfl (dl_lcR1 hw_name (fun i acc => acc = tab i (ledF n m st)) ?_))
  walk_at "dd"
  refine .inl ⟨_, .inr rfl, ?_⟩
  rw [tab_len]
  walk_at "dd"
  refine ⟨bR_small (by omega) (by omega), rfl, ?_, ?_⟩
  · rintro i acc hi rfl
    refine dlt_yes ?_
    refine dg_name0 rfl ?_
    walk_at "wp"
    walk_at "dd"
    refine ⟨n, i, m, st, D, 1, rfl, by omega, hn2, l.gr, l.nm, l.ns, by omega, l.ps, ?_⟩
    exact ⟨by rw [tab_len]; omega, by rw [← tab_succ]⟩
  rintro acc rfl
  walk_at "set"
  rw [show ((n : Nat) : Int).toNat = n from rfl]
  walk_at "dd"
  walk_at "set"
  refine ds_forR2 (fun i ρ => ∃ x, ρ = [.dt (lim n m st), .dt (.tup (tab n m)), .dt (.tup (tab (n - 1) st)), .own (tab n (ledF n m st)), .own (tab i (tightS n m st)), x]) ?_
  walk_at "dd"
  rw [tab_len]
  refine ⟨_, _, rfl, bR_small (by omega) (by omega), bR_small (by omega) (by omega), ⟨_, rfl⟩, ?_, ?_⟩
  · rintro i ρ hi ⟨x, rfl⟩
    refine dg_name0 rfl ?_
    walk_at "set"
    walk_at "dd"
    · rw [tab_len]; omega
    walk_at "dd"
    refine ⟨_, _, _, .inr rfl, rfl, tab_at (k := i) _ (by omega) (by omega), ?_⟩
    walk_at "dd"
    refine ⟨_, _, rfl, tab_at (k := i) _ (by omega) (by omega), ?_⟩
    walk_at "dd"
    refine ⟨_, _, rfl, tab_at (k := i + 1) _ (by omega) (by omega), ?_⟩
    walk_at "dd"
    refine ⟨_, _, rfl, smL _ (by omega), smL _ (by omega), ?_⟩
    walk_at "dd"
    refine ⟨_, _, rfl, smT _, l.gr.sm ((l.led (show i < n by omega)).add (l.led (show i + 1 < n by omega))) (by omega), ?_⟩
    walk_at "set"
    rw [show bd (minB (st i) (addB (ledF n m st i) (ledF n m st (i + 1)))) = bd (tightS n m st i) from rfl, ← tab_succ]
    exact ⟨_, rfl⟩
  · rintro ρ ⟨x, rfl⟩
    walk_at "dd"
    rw [show ((n : Int) - 1).toNat = n - 1 by omega]
    exact k
theorem ok_law_made (T : Txt K mg CL CC CB) (D : Def K mg "_law_made" s_law_made)  (C_Limits : MkLimits P w K mg base CL) :
    Cal P w K mg base "_law_made" 6 ["_law_limits"] (spD K (p_law_made CL)) := by
  obtain ⟨f, fd, F, hg⟩ := D
  refine ⟨f, fd, ok_D (k := 5) F sc_law_made (fun ds Q h => len_law_made h) (fun cdv A outer s H E hr => ⟨_, (pss_one (ps_ret (pe_mkLimits T C_Limits hr (by decide) rfl (pa_cons (pe_list T.bi (pe_ix ix_seq (pv 0) pe_int (fun _ _ => rfl))) (pa_cons (pe_list T.bi (pe_ix ix_seq (pv 0) pe_int (fun _ _ => rfl))) pa_nil))))), fun G0 H0 ds Q h => ?_⟩), hg, F.kp, F.binds fun _ _ _ _ _ _ us hl => match us, hl with | [_], _ => rfl⟩
  try dsimp only [cxOf, Cx.nox, Cx.wish]
  obtain ⟨n, m, st, D, rfl, l, k⟩ := h
  change DS _ _ [_] _
  have hn1 := l.n1
  have hn2 := l.n2
  walk_at "dd"
  refine ⟨_, .inr rfl, ?_⟩
  walk_at "dd"
  refine ⟨_, .inr rfl, ?_⟩
  exact ⟨n, m, st, .inl rfl, .inl rfl, hn1, hn2, fun j _ => l.pm j, fun j _ => l.ps j, k⟩
theorem ok_law_clash (T : Txt K mg CL CC CB) (D : Def K mg "_law_clash" s_law_clash) (C_law_tight : Cal P w K mg base "_law_tight" 6 ["_law_limits"] (spD K p_law_tight)) (C_law_passes : Cal P w K mg base "_law_passes" 2 ["_law_one", "_law_other"] (spD K p_law_passes)) (C_law_size : Cal P w K mg base "_law_size" 1 ["_law_one"] (spD K p_law_size)) (C_law_less : Cal P w K mg base "_law_less" 3 ["_law_one", "_law_other"] (spD K p_law_less)) (C_law_far : Cal P w K mg base "_law_far" 5 ["_law_steps", "_law_first", "_law_second"] (spD K p_law_far))  :
    Cal P w K mg base "_law_clash" 7 ["_law_limits", "_law_known_here"] (spD K p_law_clash) := by
  obtain ⟨f, fd, F, hg⟩ := D
  refine ⟨f, fd, ok_D (k := 6) F sc_law_clash (fun ds Q h => len_law_clash h) (fun cdv A outer s H E hr => ⟨_, (pss_cons (ps_set (i := 2) sc_law_clash.nd rfl (Or.inl rfl) (pe_cal C_law_tight hr (by decide) rfl (pa_cons (pv 0) pa_nil)))
    (pss_cons (ps_for PassesOwn.never rfl (pi_tup (pv 1)) (pg_tup rfl (pgs_cons (pg_name (i := 3) sc_law_clash.nd rfl (Or.inl rfl)) (pgs_cons (pg_name (i := 4) sc_law_clash.nd rfl (Or.inl rfl)) pgs_nil))) (pss_one (ps_if (pt_tru (pe_cal C_law_passes hr (by decide) rfl (pa_cons (pe_cal C_law_size hr (by decide) rfl (pa_cons (pv 4) pa_nil)) (pa_cons (pe_ix ix_seq (pe_ix ix_seq (pv 2) pe_int (fun _ _ => rfl)) (pv 3) (fun _ _ => rfl)) pa_nil)))) (pss_one (ps_ret (pe_tup (pa_cons (pv 3) (pa_cons (pv 3) pa_nil))))) pss_nil)))
    (pss_cons (ps_for PassesOwn.never rfl (pi_range1 rfl T.bi.range (pa_cons (pe_len T.bi (pv 1)) pa_nil)) (pg_name (i := 5) sc_law_clash.nd rfl (Or.inl rfl)) (pss_one (ps_for PassesOwn.never rfl (pi_tup (pe_slice sl_any (pv 1) (po_some (pe_op op_addA (pv 5) pe_int)) po_none)) (pg_name (i := 6) sc_law_clash.nd rfl (Or.inl rfl)) (pss_cons (ps_set (i := 7) sc_law_clash.nd rfl (Or.inl rfl) (pe_cal C_law_size hr (by decide) rfl (pa_cons (pe_cal C_law_less hr (by decide) rfl (pa_cons (pe_ix ix_seq (pe_ix ix_seq (pv 1) (pv 5) (fun _ _ => rfl)) pe_int (fun _ _ => rfl)) (pa_cons (pe_ix ix_seq (pv 6) pe_int (fun _ _ => rfl)) pa_nil))) pa_nil)))
    (pss_one (ps_if (pt_tru (pe_cal C_law_passes hr (by decide) rfl (pa_cons (pv 7) (pa_cons (pe_cal C_law_far hr (by decide) rfl (pa_cons (pe_ix ix_seq (pv 0) pe_int (fun _ _ => rfl)) (pa_cons (pe_ix ix_seq (pe_ix ix_seq (pv 1) (pv 5) (fun _ _ => rfl)) pe_int (fun _ _ => rfl)) (pa_cons (pe_ix ix_seq (pv 6) pe_int (fun _ _ => rfl)) pa_nil)))) pa_nil)))) (pss_one (ps_ret (pe_tup (pa_cons (pe_ix ix_seq (pe_ix ix_seq (pv 1) (pv 5) (fun _ _ => rfl)) pe_int (fun _ _ => rfl)) (pa_cons (pe_ix ix_seq (pv 6) pe_int (fun _ _ => rfl)) pa_nil))))) pss_nil))))))
    (pss_one (ps_ret pe_non))))), fun G0 H0 ds Q h => ?_⟩), hg, F.kp, F.binds fun _ _ _ _ _ _ us hl => match us, hl with | [_, _], _ => rfl⟩
  try dsimp only [cxOf, Cx.nox, Cx.wish]
  obtain ⟨n, m, st, ks, D, c, rfl, l, kk, k⟩ := h
  change DS _ _ [_, _, .no, .no, .no, .no, .no, .no] _
  have c0 := kk.c0
  have hn1 := l.n1
  have hn2 := l.n2
  have gr := l.gr
  have hst := l.ns
  have smL : ∀ j, j < n → SmB (ledF n m st j) := fun j hj => l.gr.sm (l.led hj) (by omega)
  rw [clashF_eq] at k
  walk_at "dd"
  refine ⟨n, m, st, D, rfl, l, ?_⟩
  walk_at "set"
  generalize hL : ledF n m st = L at *
  generalize Dt.tup (tab (n - 1) (tightS n m st)) = td
  refine ds_seq ?_
  refine ds_forT (fun xs i ρ => ∃ x y, (ks.take i).find? (fun p => passB (some (absR p.2)) (L p.1)) = none ∧ ρ = [.dt (lim n m st), .dt (kn ks), .dt (.tup [.tup (tab n L), td]), x, y, .no, .no, .no]) ?_
  refine de_var rfl ⟨_, rfl, ⟨_, _, rfl, rfl⟩, ?_, ?_⟩
  · rintro i x ρ hx ⟨x1, x2, hf, rfl⟩
    obtain ⟨p, hp, rfl⟩ := kn_get hx
    have hpm := List.mem_of_getElem? hp
    have hpn := kk.st.2 p hpm
    have niP := kk.ni p hpm
    walk_at "tg"
    walk_at "set"
    walk_at "dd"
    refine ⟨p.2, rfl, ?_⟩
    walk_at "dd"
    refine ⟨_, _, _, .inr rfl, rfl, tab_at (k := p.1) _ hpn rfl, ?_⟩
    walk_at "dd"
    refine ⟨some (absR p.2), L p.1, rfl, gr.sm (NiB.some niP.abs) (by omega), smL _ hpn, ?_⟩
    cases e : passB (some (absR p.2)) (L p.1) with
    | true =>
      walk_at "dd"
      have : clashG L st ks = some (p.1, p.1) := by
        unfold clashG
        rw [find_at hp hf e]
      rw [this] at k
      exact k
    | false =>
      walk_at "dd"
      exact ⟨_, _, find_next hp hf e, rfl⟩
  · rintro ρ ⟨x1, x2, hf, rfl⟩
    rw [List.length_map, List.take_length] at hf
    have hG : clashG L st ks = pairsF st ks := by unfold clashG; rw [hf]
    rw [hG] at k
    refine ds_seq ?_
    refine ds_forR1 (fun i ρ => ∃ x3 x4 x5 x6 x7, pairsF st (ks.drop i) = pairsF st ks ∧ ρ = [.dt (lim n m st), .dt (kn ks), .dt (.tup [.tup (tab n L), td]), x3, x4, x5, x6, x7]) ?_
    walk_at "dd"
    refine .inl ⟨_, .inr rfl, ?_⟩
    rw [List.length_map]
    walk_at "dd"
    have hlen := kk.len
    refine ⟨bR_small (by omega) (by omega), ⟨_, _, _, _, _, rfl, rfl⟩, ?_, ?_⟩
    · rintro i ρ hi ⟨x3, x4, x5, x6, x7, hd, rfl⟩
      obtain ⟨p, hp⟩ : ∃ p, ks[i]? = some p := ⟨ks[i]'(by omega), List.getElem?_eq_getElem _⟩
      have hpm := List.mem_of_getElem? hp
      have hpn := kk.st.2 p hpm
      have niP := kk.ni p hpm
      have hpx : atI (ks.map kn1) (i : Int) = some (kn1 p) := atI_nat (by rw [List.getElem?_map, hp]; rfl)
      rw [pairs_drop hp] at hd
      refine dg_name0 rfl ?_
      walk_at "set"
      refine ds_forT (fun xs j ρ => ∃ y1 y2, ((ks.drop (i + 1)).take j).find? (fun q => passB (some (absR (p.2 - q.2))) (dist st p.1 q.1)) = none ∧ ρ = [.dt (lim n m st), .dt (kn ks), .dt (.tup [.tup (tab n L), td]), x3, x4, .dt (.int i), y1, y2]) ?_
      walk_at "dd"
      refine .inl ⟨_, rfl, ?_⟩
      rw [show ((i : Int) + 1) = ((i + 1 : Nat) : Int) by omega, cut_from (by rw [List.length_map]; omega), ← List.map_drop]
      refine ⟨_, rfl, ⟨_, _, rfl, rfl⟩, ?_, ?_⟩
      · rintro j y ρ hy ⟨y1, y2, hf, rfl⟩
        obtain ⟨q, hq, rfl⟩ := kn_get hy
        have hqm := List.mem_of_mem_drop (List.mem_of_getElem? hq)
        have hqn := kk.st.2 q hqm
        have niQ := kk.ni q hqm
        have hlt := kn_lt kk.st hp hq
        refine dg_name0 rfl ?_
        walk_at "set"
        walk_at "dd"
        refine ⟨_, _, _, .inr rfl, rfl, hpx, ?_⟩
        walk_at "dd"
        refine ⟨p.2, q.2, rfl, niP.sm gr.pos gr.lt (by omega), niQ.sm gr.pos gr.lt (by omega), ?_⟩
        walk_at "dd"
        refine ⟨_, rfl, ?_⟩
        walk_at "set"
        walk_at "dd"
        refine ⟨_, _, _, .inr rfl, rfl, hpx, ?_⟩
        walk_at "dd"
        refine ⟨n - 1, p.1, q.1, st, D, rfl, by omega, by omega, by omega, gr, hst, ?_⟩
        walk_at "dd"
        refine ⟨some (absR (p.2 - q.2)), dist st p.1 q.1, rfl, gr.sm (NiB.some (niP.sub niQ).abs) (by omega), gr.sm (hst.dist hpn hqn) (by omega), ?_⟩
        cases e : passB (some (absR (p.2 - q.2))) (dist st p.1 q.1) with
        | true =>
          walk_at "dd"
          refine ⟨_, _, _, .inr rfl, rfl, hpx, ?_⟩
          walk_at "dd"
          rw [find_at hq hf e] at hd
          rw [← hd] at k
          exact k
        | false =>
          walk_at "dd"
          exact ⟨_, _, find_next hq hf e, rfl⟩
      · rintro ρ ⟨y1, y2, hf, rfl⟩
        rw [List.length_map, List.take_length] at hf
        rw [hf] at hd
        exact ⟨_, _, _, _, _, hd, rfl⟩
    · rintro ρ ⟨x3, x4, x5, x6, x7, hd, rfl⟩
      rw [show ((ks.length : Nat) : Int).toNat = ks.length from rfl, List.drop_length] at hd
      rw [← hd] at k
      walk_at "dd"
      exact k
end
end K20
namespace K20
open PySem L2
open Evl (Ex)
open PyProof.Rows (envOfC)
/-! F7: what the law asks of a hum. -/
section
variable {X : Cx} {K : PySem.W.Frag} {a b : PySem.Expr} {ta tb : TE} {p pos : Pos}
theorem pe_ixC (hK : X.K = K) (ha : PE X a ta) (hb : PE X b tb) (hs : PlainIx b) : PE X (.Subscript a b pos) (tOp (rIx K) ta tb) := by
  subst hK
  exact pe_ix ix_seq ha hb hs
theorem op_eqDC (hK : X.K = K) (hu : X.A.units + 64 < cLine) : OpR X (compareOp .Eq) (rEqD K) := by
  subst hK
  exact op_eqD hu
theorem op_neDC (hK : X.K = K) (hu : X.A.units + 64 < cLine) : OpR X (compareOp .NotEq) (rNeD K) := by
  subst hK
  exact op_neD hu
theorem pt_truC (hK : X.K = K) (ha : PE X a ta) (he : ∀ whole, isTrue a X.env whole = (do let v ← whole; standAt a.pos; holding [v] (truthy v)) := by intro _; rfl) : PT X a (tTru K ta) := by
  subst hK
  exact pt_tru ha he
theorem pe_listC (hK : X.K = K) (T : Bi X.mg) (ha : PE X a ta) (hg : Gl X "list" := by rfl) (he : starEach (a :: []) X.env = (false, eval a X.env) :: starEach [] X.env := by rfl) :
    PE X (.Call (.Name "list" p) [a] [] pos) (tCB (rListD K) (tCons ta tNil)) := by
  subst hK
  exact pe_list T ha hg he
theorem pe_tupleC (hK : X.K = K) (T : Bi X.mg) (ha : PE X a ta) (hg : Gl X "tuple" := by rfl) (he : starEach (a :: []) X.env = (false, eval a X.env) :: starEach [] X.env := by rfl) :
    PE X (.Call (.Name "tuple" p) [a] [] pos) (tCB (rTupD K) (tCons ta tNil)) := by
  subst hK
  exact pe_tuple T ha hg he
end
abbrev hm (n : Nat) (h : Nat → Rat) : Dt := .tup (tab n fun k => some (h k))
def HumNi (n : Nat) (h : Nat → Rat) (D c : Nat) : Prop := ∀ k, k < n → Ni D c (h k)
def p_law_within (ds : List Dt) (Q : Dt → Prop) : Prop := ∃ (n : Nat) (m st : Nat → Option Rat) (h : Nat → Rat) (D E c : Nat), ds = [hm n h, lim n m st] ∧ LimOk n m st D ∧ Gr E ∧ HumNi n h E c ∧ c ≤ 1000 ∧ Within n m st h ∧ Q (.bl true)
theorem len_law_within {ds : List Dt} {Q : Dt → Prop} (h : p_law_within ds Q) : ds.length = 2 := by
  obtain ⟨_, _, _, _, _, _, _, rfl, _⟩ := h; rfl
def p_law_is_row (ds : List Dt) (Q : Dt → Prop) : Prop := ∃ (n : Nat) (h : Nat → Rat), ds = [hm n h, .int n] ∧ n ≤ 24 ∧ Q (.bl true)
theorem len_law_is_row {ds : List Dt} {Q : Dt → Prop} (h : p_law_is_row ds Q) : ds.length = 2 := by
  obtain ⟨_, _, rfl, _⟩ := h; rfl
def p_law_value (ds : List Dt) (Q : Dt → Prop) : Prop := ∃ (ks : List (Nat × Rat)) (k : Nat), ds = [kn ks, .int k] ∧ Q (bd (valF ks k))
theorem len_law_value {ds : List Dt} {Q : Dt → Prop} (h : p_law_value ds Q) : ds.length = 2 := by
  obtain ⟨_, _, rfl, _⟩ := h; rfl
def p_law_keeps (ds : List Dt) (Q : Dt → Prop) : Prop := ∃ (n : Nat) (h : Nat → Rat) (ks : List (Nat × Rat)), ds = [hm n h, kn ks] ∧ KnSt n ks ∧ Keeps ks h ∧ Q (.bl true)
theorem len_law_keeps {ds : List Dt} {Q : Dt → Prop} (h : p_law_keeps ds Q) : ds.length = 2 := by
  obtain ⟨_, _, _, rfl, _⟩ := h; rfl
def p_law_is_limits (CL : Addr) (ds : List Dt) (Q : Dt → Prop) : Prop := ∃ (n : Nat) (m st : Nat → Option Rat), ds = [limO CL n m st, lim n m st] ∧ n ≤ 24 ∧ Q (.bl true)
theorem len_law_is_limits {CL : Addr} {ds : List Dt} {Q : Dt → Prop} (h : p_law_is_limits CL ds Q) : ds.length = 2 := by
  obtain ⟨_, _, _, rfl, _⟩ := h; rfl
def p_law_due (ds : List Dt) (Q : Dt → Prop) : Prop := ∃ (n : Nat) (m st : Nat → Option Rat) (ks : List (Nat × Rat)) (D c : Nat), ds = [lim n m st, kn ks] ∧ LimOk n m st D ∧ KnOk n ks D c ∧ Q (hm n (dueF n m st ks))
theorem len_law_due {ds : List Dt} {Q : Dt → Prop} (h : p_law_due ds Q) : ds.length = 2 := by
  obtain ⟨_, _, _, _, _, _, rfl, _⟩ := h; rfl
def p_law_bounded (ds : List Dt) (Q : Dt → Prop) : Prop := ∃ (n : Nat) (m st : Nat → Option Rat) (ks : List (Nat × Rat)) (k D : Nat), ds = [lim n m st, kn ks, .int k] ∧ LimOk n m st D ∧ k < n ∧
  ∀ b, (b = true → ∃ i, i < n ∧ dist st i k ≠ none ∧ (m i ≠ none ∨ valF ks i ≠ none)) → Q (.bl b)
theorem len_law_bounded {ds : List Dt} {Q : Dt → Prop} (h : p_law_bounded ds Q) : ds.length = 3 := by
  obtain ⟨_, _, _, _, _, _, rfl, _⟩ := h; rfl
theorem bd_some (q : Rat) : bd (some q) = rat q := rfl
theorem min_cast (i j : Nat) : (if (j : Int) < (i : Int) then (j : Int) else (i : Int)) = ((min i j : Nat) : Int) := by
  by_cases h : j < i
  · rw [if_pos (by omega), Nat.min_eq_right (by omega)]
  · rw [if_neg (by omega), Nat.min_eq_left (by omega)]
theorem max_cast (i j : Nat) : (if (j : Int) > (i : Int) then (j : Int) else (i : Int)) = ((max i j : Nat) : Int) := by
  by_cases h : i < j
  · rw [if_pos (by omega), Nat.max_eq_right (by omega)]
  · rw [if_neg (by omega), Nat.max_eq_left (by omega)]
theorem dist_minmax (st : Nat → Option Rat) (i j : Nat) : dist st (min i j) (max i j) = dist st i j := by
  rcases Nat.le_total i j with h | h
  · rw [Nat.min_eq_left h, Nat.max_eq_right h]
  · rw [Nat.min_eq_right h, Nat.max_eq_left h, dist_comm]
theorem foldl_take {α β : Type} (f : β → α → β) {ks : List α} {i : Nat} {p : α} (h : ks[i]? = some p) (b : β) : (ks.take (i + 1)).foldl f b = f ((ks.take i).foldl f b) p := by
  rw [List.take_add_one, h, List.foldl_append]
  rfl
theorem kit_self (K : PySem.W.Frag) (C : Addr) : PySem.W.kitOne K (.ref C) (.ref C) = some true := by
  unfold PySem.W.kitOne
  rw [if_pos (by simp)]
theorem hm_get {n i : Nat} {h : Nat → Rat} {x : Dt} (e : (tab n fun k => some (h k))[i]? = some x) : ∃ q, x = rat q := by
  by_cases hi : i < n
  · rw [tab_get _ hi] at e
    cases e
    exact ⟨h i, rfl⟩
  · rw [tab_none _ (by omega)] at e
    cases e
theorem deq_tupTab (n : Nat) (f : Nat → Option Rat) : deq (.tup (tab n f)) (.tup (tab n f)) = true := deq_refl (n := 2) (by rw [sh]; exact sh_tab 0 n f)
theorem fold_ni {α : Type} {D c : Nat} {f : α → Option Rat} {ks : List α} {b : Option Rat} (h0 : NiB D c b) (h : ∀ p ∈ ks, NiB D c (f p)) : NiB D c (ks.foldl (fun b p => minB b (f p)) b) := by
  rcases (foldl_minG f ks b).2.2 with e | ⟨p, hp, e⟩
  · rw [e]; exact h0
  · rw [e]; exact h p hp
theorem deq_rat (p : Rat) : deq (rat p) (rat p) = true := deq_refl (sh_rat 0 p)
local macro_rules | `(tactic| walk_at "d1") => `(tactic| first
  | with_reducible refine ds_seq ?_
  | with_reducible refine dsr_seq ?_
  | with_reducible refine ds_ret ?_
  | with_reducible refine ds_retN ?_
  | with_reducible refine ds_next ?_
  | with_reducible refine ds_own rfl (dl_list ?_)
  | with_reducible refine ds_own rfl (dl_lst ?_)
  | with_reducible refine ds_app rfl ?_ ?_
  | with_reducible refine ds_put rfl ?_
  | with_reducible refine ds_set rfl ?_
  | with_reducible refine ds_asg ?_
  | with_reducible refine ds_if ?_
  | with_reducible refine ds_par rfl rfl ?_
  | with_reducible refine de_var rfl ?_
  | with_reducible refine de_int ?_
  | with_reducible refine de_bl ?_
  | with_reducible refine de_non ?_
  | with_reducible refine de_str ?_
  | with_reducible refine de_add ?_
  | with_reducible refine de_mul ?_
  | with_reducible refine de_ix_own rfl ?_
  | with_reducible refine de_ix ?_
  | with_reducible refine de_call ?_
  | with_reducible refine de_callH rfl ?_
  | with_reducible refine de_callD (dds := [.non, .non]) (fun _ => .cons .non (.cons .non .nil)) ?_
  | with_reducible refine de_callD (dds := [.non]) (fun _ => .cons .non .nil) ?_
  | with_reducible refine de_chainI ?_
  | with_reducible refine de_opI0 ?_
  | with_reducible refine de_opI ?_
  | with_reducible refine de_opB0 ?_
  | with_reducible refine de_isN ?_
  | with_reducible refine de_notN ?_
  | with_reducible refine de_eqD ?_
  | with_reducible refine de_ne_own rfl ?_
  | with_reducible refine de_neD ?_
  | with_reducible refine de_neg ?_
  | with_reducible refine de_len_own rfl ?_
  | with_reducible refine de_len ?_
  | with_reducible refine de_int1 ?_
  | with_reducible refine de_abs ?_
  | with_reducible refine de_min2 ?_
  | with_reducible refine de_max2 ?_
  | with_reducible refine de_tuple_own rfl ?_
  | with_reducible refine de_tup ?_
  | with_reducible refine de_if ?_
  | with_reducible refine de_isBl ?_
  | with_reducible refine de_isIn ?_
  | with_reducible refine de_isTu ?_
  | with_reducible refine de_isLT ?_
  | with_reducible refine de_andV ?_
  | with_reducible refine de_orV ?_
  | with_reducible refine de_notT ?_
  | with_reducible refine de_fld ?_
  | with_reducible refine de_slice ?_
  | with_reducible refine do_none ?_
  | with_reducible refine do_some ?_
  | with_reducible refine dt_test ?_
  | with_reducible refine dt_tru ?_
  | with_reducible refine dt_and ?_
  | with_reducible refine dt_or ?_
  | with_reducible refine dt_not ?_
  | with_reducible refine da_cons ?_
  | with_reducible refine da_nil ?_
  | with_reducible refine de_lst ?_
  | with_reducible refine de_of_dl (dl_list ?_)
  | with_reducible refine de_mkLimits ?_
  | with_reducible refine de_mkClash ?_
  | with_reducible refine de_lenLim ?_)
local macro_rules | `(tactic| walk_at "d2") => `(tactic| first
  | walk_at "d1"
  | with_reducible refine iteT ?_
  | with_reducible refine iteF ?_
  | with_reducible refine ite_f Bool.not_true ?_
  | with_reducible refine ite_t Bool.not_false ?_
  | (with_reducible refine Exists.intro _ (Exists.intro _ (And.intro rfl (And.intro rfl ?_))))
  | (with_reducible refine Exists.intro _ (And.intro rfl ?_))
  | (with_reducible refine .inl (Exists.intro _ (Exists.intro _ (And.intro rfl (And.intro rfl ?_)))))
  | (refine ⟨_, _, _, .inr rfl, rfl, rfl, ?_⟩)
  | (refine ⟨Nat.le_of_ble_eq_true rfl, ?_⟩)
  | (with_reducible refine And.intro rfl ?_)
  | (with_reducible refine And.intro (by walk_at "mul") ?_)
  | (with_reducible refine And.intro (by walk_at "shd") ?_))
local macro_rules | `(tactic| walk_at "dd") => `(tactic| (repeat walk_at "d2"))
local macro_rules | `(tactic| walk_at "set") => `(tactic| simp only [List.set_cons_zero, List.set_cons_succ])
local macro_rules | `(tactic| walk_at "mul") => `(tactic| first
  | exact mul_nd (by assumption) (by assumption) | exact mul_nn (by assumption) (by assumption) | exact mul_dd (by assumption) (by assumption))
local macro_rules | `(tactic| walk_at "shd") => `(tactic| first
  | exact shD_int _ | exact shD_non | exact shD_rat _ | exact shD_tupTab _ _ | with_reducible assumption)
local macro_rules | `(tactic| walk_at "tg") => `(tactic| refine dg_tup ⟨_, rfl, rfl, dgs_cons (dg_name0 rfl (dgs_cons (dg_name0 rfl (dgs_nil ?_))))⟩)
local macro_rules | `(tactic| walk_at "wp") => `(tactic| simp only [wipeD, List.map_cons, List.map_nil, List.set_cons_zero, List.set_cons_succ])
section
variable {P : Program} {w : World} {K : PySem.W.Frag} {mg : Str → Option Value} {base : Heap} {CL CC CB : Addr}
theorem ok_law_within (T : Txt K mg CL CC CB) (D : Def K mg "_law_within" s_law_within) (C_law_below : Cal P w K mg base "_law_below" 1 ["_law_one", "_law_other"] (spD K p_law_below)) (C_law_size : Cal P w K mg base "_law_size" 1 ["_law_one"] (spD K p_law_size)) (C_law_less : Cal P w K mg base "_law_less" 3 ["_law_one", "_law_other"] (spD K p_law_less))  :
    Cal P w K mg base "_law_within" 4 ["_law_hum_here", "_law_limits"] (spD K p_law_within) := by
  obtain ⟨f, fd, F, hg⟩ := D
  refine ⟨f, fd, ok_D (k := 3) F sc_law_within (fun ds Q h => len_law_within h) (fun cdv A outer s H E hr => ⟨_, (pss_cons (ps_asg (pv 1) (pg_tup rfl (pgs_cons (pg_name (i := 2) sc_law_within.nd rfl (Or.inl rfl)) (pgs_cons (pg_name (i := 3) sc_law_within.nd rfl (Or.inl rfl)) pgs_nil))))
    (pss_cons (ps_for PassesOwn.never rfl (pi_range1 rfl T.bi.range (pa_cons (pe_len T.bi (pv 0)) pa_nil)) (pg_name (i := 4) sc_law_within.nd rfl (Or.inl rfl)) (pss_one (ps_if (PW.pt (pw_and (pt_cmpR op_notN (pe_ix ix_seq (pv 2) (pv 4) (fun _ _ => rfl)) pe_non (nomark _)) (pw_and1 (pt_tru (pe_cal C_law_below hr (by decide) rfl (pa_cons (pe_ix ix_seq (pv 2) (pv 4) (fun _ _ => rfl)) (pa_cons (pe_cal C_law_size hr (by decide) rfl (pa_cons (pe_ix ix_seq (pv 0) (pv 4) (fun _ _ => rfl)) pa_nil)) pa_nil))))))) (pss_one (ps_ret pe_bl)) pss_nil)))
    (pss_cons (ps_for PassesOwn.never rfl (pi_range2 rfl T.bi.range (pa_cons pe_int (pa_cons (pe_len T.bi (pv 0)) pa_nil))) (pg_name (i := 4) sc_law_within.nd rfl (Or.inl rfl)) (pss_one (ps_if (PW.pt (pw_and (pt_cmpR op_notN (pe_ix ix_seq (pv 3) (pe_op op_sub (pv 4) pe_int) (fun _ _ => rfl)) pe_non (nomark _)) (pw_and1 (pt_tru (pe_cal C_law_below hr (by decide) rfl (pa_cons (pe_ix ix_seq (pv 3) (pe_op op_sub (pv 4) pe_int) (fun _ _ => rfl)) (pa_cons (pe_cal C_law_size hr (by decide) rfl (pa_cons (pe_cal C_law_less hr (by decide) rfl (pa_cons (pe_ix ix_seq (pv 0) (pv 4) (fun _ _ => rfl)) (pa_cons (pe_ix ix_seq (pv 0) (pe_op op_sub (pv 4) pe_int) (fun _ _ => rfl)) pa_nil))) pa_nil)) pa_nil))))))) (pss_one (ps_ret pe_bl)) pss_nil)))
    (pss_one (ps_ret pe_bl))))), fun G0 H0 ds Q h => ?_⟩), hg, F.kp, F.binds fun _ _ _ _ _ _ us hl => match us, hl with | [_, _], _ => rfl⟩
  try dsimp only [cxOf, Cx.nox, Cx.wish]
  obtain ⟨n, m, st, h, D, E', c, rfl, l, g, hh, hc, hw, k⟩ := h
  change DS _ _ [_, _, .no, .no, .no] _
  have hn1 := l.n1
  have hn2 := l.n2
  have smT : ∀ j q, st j = some q → Sm q := fun j => l.gr.sm (l.ns j) (by omega)
  have smM : ∀ j q, m j = some q → Sm q := fun j => l.gr.sm (l.nm j) (by omega)
  have smH : ∀ j, j < n → Sm (h j) := fun j hj => (hh j hj).sm g.pos g.lt (by omega)
  refine ds_seq (ds_asg (de_var rfl ?_))
  walk_at "tg"
  walk_at "set"
  refine ds_seq ?_
  refine ds_forR1 (fun i ρ => ∃ x, ρ = [.dt (hm n h), .dt (lim n m st), .dt (.tup (tab n m)), .dt (.tup (tab (n - 1) st)), x]) ?_
  walk_at "dd"
  refine .inl ⟨_, .inr rfl, ?_⟩
  rw [tab_len]
  walk_at "dd"
  refine ⟨bR_small (by omega) (by omega), ⟨_, rfl⟩, ?_, ?_⟩
  · rintro i ρ hi ⟨x, rfl⟩
    refine dg_name0 rfl ?_
    walk_at "set"
    walk_at "dd"
    refine ⟨_, _, _, .inr rfl, rfl, tab_at (k := i) _ (by omega) rfl, ?_⟩
    walk_at "dd"
    rw [isNon_bd]
    have hm1 := hw.most i (by omega)
    cases e : m i with
    | none => refine ite_f rfl ?_; walk_at "dd"; exact ⟨_, rfl⟩
    | some M =>
      rw [e] at hm1
      refine ite_t rfl ?_
      walk_at "dd"
      refine ⟨_, _, _, .inr rfl, rfl, tab_at (k := i) _ (by omega) rfl, ?_⟩
      walk_at "dd"
      rw [e]
      refine ⟨_, _, _, .inr rfl, rfl, tab_at (k := i) _ (by omega) rfl, ?_⟩
      walk_at "dd"
      refine ⟨h i, rfl, ?_⟩
      walk_at "dd"
      refine ⟨M, absR (h i), rfl, smM i M e, (hh i (by omega)).abs.sm g.pos g.lt (by omega), ?_⟩
      have hf : decide (M < absR (h i)) = false := decide_eq_false (by have : absR (h i) ≤ M := hm1; grind)
      rw [hf]
      walk_at "dd"
      exact ⟨_, rfl⟩
  · rintro ρ ⟨x, rfl⟩
    refine ds_seq ?_
    refine ds_forR2 (fun i ρ => ∃ x, ρ = [.dt (hm n h), .dt (lim n m st), .dt (.tup (tab n m)), .dt (.tup (tab (n - 1) st)), x]) ?_
    walk_at "dd"
    refine .inl ⟨_, .inr rfl, ?_⟩
    rw [tab_len]
    walk_at "dd"
    refine ⟨_, _, rfl, bR_small (by omega) (by omega), bR_small (by omega) (by omega), ⟨_, rfl⟩, ?_, ?_⟩
    · rintro i ρ hi ⟨x, rfl⟩
      refine dg_name0 rfl ?_
      walk_at "set"
      walk_at "dd"
      refine ⟨_, _, _, .inr rfl, rfl, tab_at (k := i) _ (by omega) (by omega), ?_⟩
      walk_at "dd"
      rw [isNon_bd]
      have hm1 := hw.step i (by omega)
      cases e : st i with
      | none => refine ite_f rfl ?_; walk_at "dd"; exact ⟨_, rfl⟩
      | some M =>
        rw [e] at hm1
        refine ite_t rfl ?_
        walk_at "dd"
        refine ⟨_, _, _, .inr rfl, rfl, tab_at (k := i) _ (by omega) (by omega), ?_⟩
        walk_at "dd"
        rw [e]
        refine ⟨_, _, _, .inr rfl, rfl, tab_at (k := i + 1) _ (by omega) (by omega), ?_⟩
        walk_at "dd"
        refine ⟨_, _, _, .inr rfl, rfl, tab_at (k := i) _ (by omega) (by omega), ?_⟩
        walk_at "dd"
        refine ⟨h (i + 1), h i, rfl, smH _ (by omega), smH _ (by omega), ?_⟩
        walk_at "dd"
        refine ⟨_, rfl, ?_⟩
        walk_at "dd"
        refine ⟨M, absR (h (i + 1) - h i), rfl, smT i M e, ((hh (i + 1) (by omega)).sub (hh i (by omega))).abs.sm g.pos g.lt (by omega), ?_⟩
        have hf : decide (M < absR (h (i + 1) - h i)) = false := decide_eq_false (by have : absR (h (i + 1) - h i) ≤ M := hm1; grind)
        rw [hf]
        walk_at "dd"
        exact ⟨_, rfl⟩
    · rintro ρ ⟨x, rfl⟩
      walk_at "dd"
      exact k
theorem ok_law_is_row (T : Txt K mg CL CC CB) (D : Def K mg "_law_is_row" s_law_is_row) (C_law_is_ratio : Cal P w K mg base "_law_is_ratio" 2 ["_law_thing"] (spD K p_law_is_ratio))  :
    Cal P w K mg base "_law_is_row" 3 ["_law_thing", "_law_many_here"] (spD K p_law_is_row) := by
  obtain ⟨f, fd, F, hg⟩ := D
  refine ⟨f, fd, ok_D (k := 2) F sc_law_is_row (fun ds Q h => len_law_is_row h) (fun cdv A outer s H E hr => ⟨_, (pss_one (ps_ret (pe_and (pe_isi T.bi (pv 0) (pe_tyTuple T.bi)) (pe_and (pe_cmpR (op_eqD hr.units) (pe_len T.bi (pv 0)) (pv 1) (nomark _)) (pe_one (pe_notT (pe_lc (own := [("_law_one", 2)]) (g := gName 2) rfl sc_law_is_row.nd (pi_tup (pv 0)) (blkOk_by (own := [("_law_one", 2)]) (N := ["_law_thing", "_law_many_here", "_law_one"]) (sc := defScope s_law_is_row) (by decide +kernel)) (fun _ _ _ _ _ => (pg_name (i := 2) sc_law_is_row.nd rfl (Or.inl rfl))) (fun _ _ _ _ _ => (pts_one (pt_not (pt_truC (K := K) rfl (pe_cal C_law_is_ratio hr (by decide) rfl (pa_cons (pv 2) pa_nil)))))) (fun _ _ _ _ _ => pe_int)))))))), fun G0 H0 ds Q h => ?_⟩), hg, F.kp, F.binds fun _ _ _ _ _ _ us hl => match us, hl with | [_, _], _ => rfl⟩
  try dsimp only [cxOf, Cx.nox, Cx.wish]
  obtain ⟨n, h, rfl, hn, k⟩ := h
  change DS _ _ [_, _, .no] _
  walk_at "dd"
  refine ite_t rfl ?_
  walk_at "dd"
  refine .inl ⟨_, .inr rfl, ?_⟩
  rw [tab_len]
  walk_at "dd"
  rw [deq_int]
  refine ite_t (by simp) ?_
  walk_at "dd"
  refine de_of_dl (dl_lcT hw_name (fun xs i acc => acc = []) ?_)
  refine de_var rfl ⟨_, rfl, rfl, ?_, ?_⟩
  · rintro i x acc hx rfl
    obtain ⟨q, rfl⟩ := hm_get hx
    unfold DLt
    refine dg_name0 rfl ?_
    walk_at "wp"
    walk_at "dd"
    refine ⟨_, rfl, shD_rat q, ?_⟩
    rw [isRt_rat]
    walk_at "dd"
    trivial
  · rintro acc rfl
    walk_at "dd"
    exact k
theorem ok_law_value (T : Txt K mg CL CC CB) (D : Def K mg "_law_value" s_law_value)   :
    Cal P w K mg base "_law_value" 1 ["_law_known_here", "_law_section"] (spD K p_law_value) := by
  obtain ⟨f, fd, F, hg⟩ := D
  refine ⟨f, fd, ok_D (k := 0) F sc_law_value (fun ds Q h => len_law_value h) (fun cdv A outer s H E hr => ⟨_, (pss_cons (ps_for PassesOwn.never rfl (pi_tup (pv 0)) (pg_tup rfl (pgs_cons (pg_name (i := 2) sc_law_value.nd rfl (Or.inl rfl)) (pgs_cons (pg_name (i := 3) sc_law_value.nd rfl (Or.inl rfl)) pgs_nil))) (pss_one (ps_if (pt_cmpR (op_eqD hr.units) (pv 2) (pv 1) (nomark _)) (pss_one (ps_ret (pv 3))) pss_nil)))
    (pss_one (ps_ret pe_non))), fun G0 H0 ds Q h => ?_⟩), hg, F.kp, F.binds fun _ _ _ _ _ _ us hl => match us, hl with | [_, _], _ => rfl⟩
  try dsimp only [cxOf, Cx.nox, Cx.wish]
  obtain ⟨ks, v, rfl, k⟩ := h
  change DS _ _ [_, _, .no, .no] _
  refine ds_seq ?_
  refine ds_forT (fun xs i ρ => ∃ x y, (ks.take i).find? (fun p => p.1 == v) = none ∧ ρ = [.dt (kn ks), .dt (.int v), x, y]) ?_
  refine de_var rfl ⟨_, rfl, ⟨_, _, rfl, rfl⟩, ?_, ?_⟩
  · rintro i x ρ hx ⟨x1, x2, hf, rfl⟩
    obtain ⟨p, hp, rfl⟩ := kn_get hx
    walk_at "tg"
    walk_at "set"
    walk_at "dd"
    rw [deq_int]
    by_cases e : p.1 = v
    · refine ite_t (by rw [e]; simp) ?_
      walk_at "dd"
      have : valF ks v = some p.2 := by
        unfold valF
        rw [find_at hp hf (by rw [e]; simp)]
        rfl
      rw [this] at k
      exact k
    · refine ite_f (by simp; omega) ?_
      walk_at "dd"
      exact ⟨_, _, find_next hp hf (by simpa using e), rfl⟩
  · rintro ρ ⟨x1, x2, hf, rfl⟩
    rw [List.length_map, List.take_length] at hf
    walk_at "dd"
    have : valF ks v = none := by unfold valF; rw [hf]; rfl
    rw [this] at k
    exact k
theorem ok_law_keeps (T : Txt K mg CL CC CB) (D : Def K mg "_law_keeps" s_law_keeps)   :
    Cal P w K mg base "_law_keeps" 1 ["_law_hum_here", "_law_known_here"] (spD K p_law_keeps) := by
  obtain ⟨f, fd, F, hg⟩ := D
  refine ⟨f, fd, ok_D (k := 0) F sc_law_keeps (fun ds Q h => len_law_keeps h) (fun cdv A outer s H E hr => ⟨_, (pss_one (ps_ret (pe_notT (pe_lc (own := [("_law_section", 2), ("_law_value_here", 3)]) (g := gTup K 2 (gCons (gName 2) (gCons (gName 3) gNil))) rfl sc_law_keeps.nd (pi_tup (pv 1)) (blkOk_by (own := [("_law_section", 2), ("_law_value_here", 3)]) (N := ["_law_hum_here", "_law_known_here", "_law_section", "_law_value_here"]) (sc := defScope s_law_keeps) (by decide +kernel)) (fun _ _ _ _ _ => (pg_tup rfl (pgs_cons (pg_name (i := 2) sc_law_keeps.nd rfl (Or.inl rfl)) (pgs_cons (pg_name (i := 3) sc_law_keeps.nd rfl (Or.inl rfl)) pgs_nil)))) (fun _ _ _ _ _ => (pts_one (pt_cmpR (op_neDC (K := K) rfl hr.units) (pe_ixC (K := K) rfl (pv 0) (pv 2) (fun _ _ => rfl)) (pv 3) (nomark _)))) (fun _ _ _ _ _ => pe_int))))), fun G0 H0 ds Q h => ?_⟩), hg, F.kp, F.binds fun _ _ _ _ _ _ us hl => match us, hl with | [_, _], _ => rfl⟩
  try dsimp only [cxOf, Cx.nox, Cx.wish]
  obtain ⟨n, h, ks, rfl, hs, hk, k⟩ := h
  change DS _ _ [_, _, .no, .no] _
  walk_at "dd"
  refine de_of_dl (dl_lcT (hw_tup2 (by decide)) (fun xs i acc => acc = []) ?_)
  refine de_var rfl ⟨_, rfl, rfl, ?_, ?_⟩
  · rintro i x acc hx rfl
    obtain ⟨p, hp, rfl⟩ := kn_get hx
    have hpm := List.mem_of_getElem? hp
    unfold DLt
    walk_at "tg"
    walk_at "wp"
    walk_at "dd"
    refine ⟨_, _, _, .inr rfl, rfl, tab_at (k := p.1) _ (hs.2 p hpm) rfl, ?_⟩
    rw [hk p hpm]
    walk_at "dd"
    refine ⟨shD_rat _, shD_rat _, _, rfl, ?_⟩
    refine ite_f (by rw [show bd (some p.2) = rat p.2 from rfl, deq_rat]; rfl) ?_
    trivial
  · rintro acc rfl
    walk_at "dd"
    exact k
theorem ok_law_is_limits (T : Txt K mg CL CC CB) (D : Def K mg "_law_is_limits" s_law_is_limits) (C_law_is_ratio : Cal P w K mg base "_law_is_ratio" 2 ["_law_thing"] (spD K p_law_is_ratio))  :
    Cal P w K mg base "_law_is_limits" 3 ["_law_thing", "_law_limits"] (spD K (p_law_is_limits CL)) := by
  obtain ⟨f, fd, F, hg⟩ := D
  refine ⟨f, fd, ok_D (k := 2) F sc_law_is_limits (fun ds Q h => len_law_is_limits h) (fun cdv A outer s H E hr => ⟨_, (pss_cons (ps_if (PW.pt (pw_or (pt_not (pt_tru (pe_isi T.bi (pv 0) (pe_glob (v := .ref CL) rfl T.gLimits rfl)))) (pw_or (pt_not (pt_tru (pe_isi T.bi (pe_fld (pv 0) rfl) (pe_tyTuple T.bi)))) (pw_or1 (pt_not (pt_tru (pe_isi T.bi (pe_fld (pv 0) rfl) (pe_tyTuple T.bi)))))))) (pss_one (ps_ret pe_bl)) pss_nil)
    (pss_cons (ps_for PassesOwn.never rfl (pi_tup (pe_op op_addA (pe_fld (pv 0) rfl) (pe_fld (pv 0) rfl))) (pg_name (i := 2) sc_law_is_limits.nd rfl (Or.inl rfl)) (pss_one (ps_if (PW.pt (pw_and (pt_cmpR op_notN (pv 2) pe_non (nomark _)) (pw_and1 (pt_not (pt_tru (pe_cal C_law_is_ratio hr (by decide) rfl (pa_cons (pv 2) pa_nil))))))) (pss_one (ps_ret pe_bl)) pss_nil)))
    (pss_one (ps_ret (pe_and (pe_cmpR (op_eqD hr.units) (pe_fld (pv 0) rfl) (pe_ix ix_seq (pv 1) pe_int (fun _ _ => rfl)) (nomark _)) (pe_one (pe_cmpR (op_eqD hr.units) (pe_fld (pv 0) rfl) (pe_ix ix_seq (pv 1) pe_int (fun _ _ => rfl)) (nomark _)))))))), fun G0 H0 ds Q h => ?_⟩), hg, F.kp, F.binds fun _ _ _ _ _ _ us hl => match us, hl with | [_, _], _ => rfl⟩
  try dsimp only [cxOf, Cx.nox, Cx.wish]
  obtain ⟨n, m, st, rfl, hn, k⟩ := h
  change DS _ _ [_, _, .no] _
  have cl1 : TyD K (limO CL n m st) (.ref CL) := .ob _ _ T.oL
  walk_at "dd"
  refine de_isi (.own CL) (de_var rfl ⟨_, _, cl1, kit_self K CL, ?_⟩)
  walk_at "dd"
  refine ⟨CL, _, _, _, rfl, T.oL.cl, T.nMosts, rfl, ?_⟩
  walk_at "dd"
  refine ite_f rfl ?_
  walk_at "dd"
  refine ⟨CL, _, _, _, rfl, T.oL.cl, T.nSteps, rfl, ?_⟩
  walk_at "dd"
  refine ite_f rfl ?_
  walk_at "dd"
  refine ds_forT (fun xs i ρ => ∃ x, ρ = [.dt (limO CL n m st), .dt (lim n m st), x]) ?_
  walk_at "dd"
  refine ⟨CL, _, _, _, rfl, T.oL.cl, T.nMosts, rfl, ?_⟩
  walk_at "dd"
  refine ⟨CL, _, _, _, rfl, T.oL.cl, T.nSteps, rfl, ?_⟩
  refine .inr (.inl ⟨_, _, rfl, rfl, by rw [tab_len, tab_len]; omega, ?_⟩)
  refine ⟨_, rfl, ⟨_, rfl⟩, ?_, ?_⟩
  · rintro i x ρ hx ⟨y, rfl⟩
    obtain ⟨o, rfl⟩ : ∃ o, x = bd o := by
      rcases List.mem_append.mp (List.mem_of_getElem? hx) with hm | hm
      · obtain ⟨j, _, e⟩ := List.mem_map.mp hm
        exact ⟨_, e.symm⟩
      · obtain ⟨j, _, e⟩ := List.mem_map.mp hm
        exact ⟨_, e.symm⟩
    refine dg_name0 rfl ?_
    walk_at "set"
    walk_at "dd"
    rw [isNon_bd]
    cases o with
    | none =>
      refine ite_f rfl ?_
      walk_at "dd"
      exact ⟨_, rfl⟩
    | some q =>
      refine ite_t rfl ?_
      walk_at "dd"
      refine ⟨_, rfl, shD_rat q, ?_⟩
      rw [show bd (some q) = rat q from rfl, isRt_rat]
      walk_at "dd"
      exact ⟨_, rfl⟩
  · rintro ρ ⟨y, rfl⟩
    walk_at "dd"
    refine ⟨CL, _, _, _, rfl, T.oL.cl, T.nMosts, rfl, ?_⟩
    walk_at "dd"
    refine ite_t (deq_tupTab n m) ?_
    walk_at "dd"
    refine ⟨CL, _, _, _, rfl, T.oL.cl, T.nSteps, rfl, ?_⟩
    walk_at "dd"
    rw [deq_tupTab]
    exact k
theorem ok_law_due (T : Txt K mg CL CC CB) (D : Def K mg "_law_due" s_law_due) (C_law_tight : Cal P w K mg base "_law_tight" 6 ["_law_limits"] (spD K p_law_tight)) (C_law_far : Cal P w K mg base "_law_far" 5 ["_law_steps", "_law_first", "_law_second"] (spD K p_law_far)) (C_law_least : Cal P w K mg base "_law_least" 2 ["_law_one", "_law_other"] (spD K p_law_least)) (C_law_added : Cal P w K mg base "_law_added" 4 ["_law_one", "_law_other"] (spD K p_law_added))  :
    Cal P w K mg base "_law_due" 7 ["_law_limits", "_law_known_here"] (spD K p_law_due) := by
  obtain ⟨f, fd, F, hg⟩ := D
  refine ⟨f, fd, ok_D (k := 6) F sc_law_due (fun ds Q h => len_law_due h) (fun cdv A outer s H E hr => ⟨_, (pss_cons (ps_set (i := 2) sc_law_due.nd rfl (Or.inl rfl) (pe_cal C_law_tight hr (by decide) rfl (pa_cons (pv 0) pa_nil)))
    (pss_cons (ps_set (i := 3) sc_law_due.nd rfl (Or.inl rfl) (pe_lst pa_nil))
    (pss_cons (ps_for PassesOwn.never rfl (pi_range1 rfl T.bi.range (pa_cons (pe_len T.bi (pe_ix ix_seq (pv 0) pe_int (fun _ _ => rfl))) pa_nil)) (pg_name (i := 4) sc_law_due.nd rfl (Or.inl rfl)) (pss_cons (ps_set (i := 5) sc_law_due.nd rfl (Or.inl rfl) (pe_ix ix_seq (pe_ix ix_seq (pv 2) pe_int (fun _ _ => rfl)) (pv 4) (fun _ _ => rfl)))
    (pss_cons (ps_for PassesOwn.never rfl (pi_tup (pv 1)) (pg_tup rfl (pgs_cons (pg_name (i := 6) sc_law_due.nd rfl (Or.inl rfl)) (pgs_cons (pg_name (i := 7) sc_law_due.nd rfl (Or.inl rfl)) pgs_nil))) (pss_cons (ps_set (i := 8) sc_law_due.nd rfl (Or.inl rfl) (pe_cal C_law_far hr (by decide) rfl (pa_cons (pe_ix ix_seq (pv 0) pe_int (fun _ _ => rfl)) (pa_cons (pe_min T.bi rfl (pv 4) (pv 6)) (pa_cons (pe_max T.bi rfl (pv 4) (pv 6)) pa_nil)))))
    (pss_one (ps_set (i := 5) sc_law_due.nd rfl (Or.inl rfl) (pe_cal C_law_least hr (by decide) rfl (pa_cons (pv 5) (pa_cons (pe_cal C_law_added hr (by decide) rfl (pa_cons (pv 7) (pa_cons (pv 8) pa_nil))) pa_nil)))))))
    (pss_one (ps_expr (pe_bm PySem.F.plainAttrs_list PySem.F.slot_list_append PySem.F.type_list_append mt_append (pv 3) (pa_cons (pe_ifExp (pt_cmpR op_isN (pv 5) pe_non (nomark _)) (pe_tup (pa_cons pe_int (pa_cons pe_int pa_nil))) (pv 5)) pa_nil)))))))
    (pss_one (ps_ret (pe_tuple T.bi (pv 3))))))), fun G0 H0 ds Q h => ?_⟩), hg, F.kp, F.binds fun _ _ _ _ _ _ us hl => match us, hl with | [_, _], _ => rfl⟩
  try dsimp only [cxOf, Cx.nox, Cx.wish]
  obtain ⟨n, m, st, ks, D, c, rfl, l, kk, k⟩ := h
  change DS _ _ [_, _, .no, .no, .no, .no, .no, .no, .no] _
  have hn1 := l.n1
  have hn2 := l.n2
  have c0 := kk.c0
  walk_at "dd"
  refine ⟨n, m, st, D, rfl, l, ?_⟩
  walk_at "set"
  walk_at "dd"
  walk_at "set"
  generalize Dt.tup (tab (n - 1) (tightS n m st)) = td
  refine ds_forR1 (fun i ρ => ∃ x4 x5 x6 x7 x8, ρ = [.dt (lim n m st), .dt (kn ks), .dt (.tup [.tup (tab n (ledF n m st)), td]), .own (tab i fun k => some (dueF n m st ks k)), x4, x5, x6, x7, x8]) ?_
  walk_at "dd"
  refine .inl ⟨_, .inr rfl, ?_⟩
  rw [tab_len]
  walk_at "dd"
  refine ⟨bR_small (by omega) (by omega), ⟨_, _, _, _, _, rfl⟩, ?_, ?_⟩
  · rintro i ρ hi ⟨x4, x5, x6, x7, x8, rfl⟩
    have hin : i < n := by omega
    refine dg_name0 rfl ?_
    walk_at "set"
    walk_at "dd"
    refine ⟨_, _, _, .inr rfl, rfl, tab_at (k := i) _ hin rfl, ?_⟩
    walk_at "set"
    refine ds_seq ?_
    refine ds_forT (fun xs j ρ => ∃ x6 x7 x8, ρ = [.dt (lim n m st), .dt (kn ks), .dt (.tup [.tup (tab n (ledF n m st)), td]), .own (tab i fun k => some (dueF n m st ks k)), .dt (.int i), .dt (bd ((ks.take j).foldl (fun b p => minB b (addB (some p.2) (dist st p.1 i))) (ledF n m st i))), x6, x7, x8]) ?_
    refine de_var rfl ⟨_, rfl, ⟨_, _, _, rfl⟩, ?_, ?_⟩
    · rintro j y ρ hy ⟨x6, x7, x8, rfl⟩
      obtain ⟨p, hp, rfl⟩ := kn_get hy
      have hpm := List.mem_of_getElem? hp
      have hpn := kk.st.2 p hpm
      have niP := kk.ni p hpm
      have niD := l.dist hpn hin
      have smB : SmB ((ks.take j).foldl (fun b p => minB b (addB (some p.2) (dist st p.1 i))) (ledF n m st i)) := by
        refine l.gr.sm (c := c + 25) (fold_ni ((l.led hin).mono (by omega)) fun q hq => ?_) (by omega)
        have hqm := List.mem_of_mem_take hq
        exact ((NiB.some (kk.ni q hqm)).add (l.dist (kk.st.2 q hqm) hin)).mono (by omega)
      walk_at "tg"
      walk_at "set"
      walk_at "dd"
      rw [min_cast, max_cast]
      refine ⟨n - 1, min i p.1, max i p.1, st, D, rfl, by omega, by omega, by omega, l.gr, l.ns, ?_⟩
      rw [dist_minmax, dist_comm]
      walk_at "set"
      walk_at "dd"
      refine ⟨some p.2, _, rfl, l.gr.sm (NiB.some niP) (by omega), l.gr.sm niD (by omega), ?_⟩
      walk_at "dd"
      refine ⟨_, _, rfl, smB, l.gr.sm ((NiB.some niP).add niD) (by omega), ?_⟩
      walk_at "set"
      rw [← foldl_take (fun b (p : Nat × Rat) => minB b (addB (some p.2) (dist st p.1 i))) hp]
      exact ⟨_, _, _, rfl⟩
    · rintro ρ ⟨x6, x7, x8, rfl⟩
      rw [List.length_map, List.take_length]
      refine ds_app rfl (by rw [tab_len]; omega) ?_
      walk_at "dd"
      rw [isNon_bd]
      have fin : bd (some (dueF n m st ks i)) = match dueB n m st ks i with | none => rat 0 | some b => rat b := by
        unfold dueF
        cases dueB n m st ks i <;> rfl
      rw [show ks.foldl (fun b p => minB b (addB (some p.2) (dist st p.1 i))) (ledF n m st i) = dueB n m st ks i from rfl]
      have up : (tab i fun k => some (dueF n m st ks k)) ++ [match dueB n m st ks i with | none => rat 0 | some b => rat b] = tab (i + 1) fun k => some (dueF n m st ks k) := by
        rw [tab_succ, fin]
      cases e : dueB n m st ks i with
      | none =>
        refine ite_t rfl ?_
        walk_at "dd"
        walk_at "set"
        rw [e] at up
        rw [← up]
        exact ⟨_, _, _, _, _, rfl⟩
      | some b =>
        refine ite_f rfl ?_
        walk_at "dd"
        walk_at "set"
        rw [e] at up
        rw [← up]
        exact ⟨_, _, _, _, _, rfl⟩
  · rintro ρ ⟨x4, x5, x6, x7, x8, rfl⟩
    walk_at "dd"
    exact k
theorem ok_law_bounded (T : Txt K mg CL CC CB) (D : Def K mg "_law_bounded" s_law_bounded) (C_law_far : Cal P w K mg base "_law_far" 5 ["_law_steps", "_law_first", "_law_second"] (spD K p_law_far)) (C_law_value : Cal P w K mg base "_law_value" 1 ["_law_known_here", "_law_section"] (spD K p_law_value))  :
    Cal P w K mg base "_law_bounded" 6 ["_law_limits", "_law_known_here", "_law_place"] (spD K p_law_bounded) := by
  obtain ⟨f, fd, F, hg⟩ := D
  refine ⟨f, fd, ok_D (k := 5) F sc_law_bounded (fun ds Q h => len_law_bounded h) (fun cdv A outer s H E hr => ⟨_, (pss_cons (ps_for PassesOwn.never rfl (pi_range1 rfl T.bi.range (pa_cons (pe_len T.bi (pe_ix ix_seq (pv 0) pe_int (fun _ _ => rfl))) pa_nil)) (pg_name (i := 3) sc_law_bounded.nd rfl (Or.inl rfl)) (pss_one (ps_if (pt_cmpR op_notN (pe_cal C_law_far hr (by decide) rfl (pa_cons (pe_ix ix_seq (pv 0) pe_int (fun _ _ => rfl)) (pa_cons (pe_min T.bi rfl (pv 3) (pv 2)) (pa_cons (pe_max T.bi rfl (pv 3) (pv 2)) pa_nil)))) pe_non (nomark _)) (pss_one (ps_if (PW.pt (pw_or (pt_cmpR op_notN (pe_ix ix_seq (pe_ix ix_seq (pv 0) pe_int (fun _ _ => rfl)) (pv 3) (fun _ _ => rfl)) pe_non (nomark _)) (pw_or1 (pt_cmpR op_notN (pe_cal C_law_value hr (by decide) rfl (pa_cons (pv 1) (pa_cons (pv 3) pa_nil))) pe_non (nomark _))))) (pss_one (ps_ret pe_bl)) pss_nil)) pss_nil)))
    (pss_one (ps_ret pe_bl))), fun G0 H0 ds Q h => ?_⟩), hg, F.kp, F.binds fun _ _ _ _ _ _ us hl => match us, hl with | [_, _, _], _ => rfl⟩
  try dsimp only [cxOf, Cx.nox, Cx.wish]
  obtain ⟨n, m, st, ks, v, D, rfl, l, hv, k⟩ := h
  change DS _ _ [_, _, _, .no] _
  have hn1 := l.n1
  have hn2 := l.n2
  refine ds_seq ?_
  refine ds_forR1 (fun i ρ => ∃ x3, ρ = [.dt (lim n m st), .dt (kn ks), .dt (.int v), x3]) ?_
  walk_at "dd"
  refine .inl ⟨_, .inr rfl, ?_⟩
  rw [tab_len]
  walk_at "dd"
  refine ⟨bR_small (by omega) (by omega), ⟨_, rfl⟩, ?_, ?_⟩
  · rintro i ρ hi ⟨x3, rfl⟩
    have hin : i < n := by omega
    refine dg_name0 rfl ?_
    walk_at "set"
    walk_at "dd"
    rw [min_cast, max_cast]
    refine ⟨n - 1, min i v, max i v, st, D, rfl, by omega, by omega, by omega, l.gr, l.ns, ?_⟩
    rw [dist_minmax]
    walk_at "dd"
    rw [isNon_bd]
    cases e : dist st i v with
    | none =>
      refine ite_f rfl ?_
      walk_at "dd"
      exact ⟨_, rfl⟩
    | some d =>
      refine ite_t rfl ?_
      walk_at "dd"
      refine ⟨_, _, _, .inr rfl, rfl, tab_at (k := i) _ hin rfl, ?_⟩
      walk_at "dd"
      rw [isNon_bd]
      cases e2 : m i with
      | some M =>
        refine ite_t rfl ?_
        walk_at "dd"
        exact k true fun _ => ⟨i, hin, by rw [e]; simp, .inl (by rw [e2]; simp)⟩
      | none =>
        refine ite_f rfl ?_
        walk_at "dd"
        refine ⟨ks, i, rfl, ?_⟩
        walk_at "dd"
        rw [isNon_bd]
        cases e3 : valF ks i with
        | none =>
          refine ite_f rfl ?_
          walk_at "dd"
          exact ⟨_, rfl⟩
        | some w =>
          refine ite_t rfl ?_
          walk_at "dd"
          exact k true fun _ => ⟨i, hin, by rw [e]; simp, .inr (by rw [e3]; simp)⟩
  · rintro ρ ⟨x3, rfl⟩
    walk_at "dd"
    exact k false (fun z => by cases z)
end
end K20
namespace K20
open PySem L2
open Evl (Ex)
open PyProof.Rows (envOfC)
/-! F8: the hand. -/
/-- as DS, the first slot's value told -/
def DSk (v0 : V) (c : Ctx) (ts : TS) (ρ : List Sl) (E : DEn) : Prop := ∀ σ G H, Env c σ G H ρ → σ[0]? = some (some v0) → ∀ D : Ends,
  (∀ σ' G' H' ρ', Ex G G' → Env c σ' G' H' ρ' → σ'[0]? = some (some v0) → E.nx ρ' → D.nx σ' H') → (∀ v d σ' G' H' ρ', Env c σ' G' H' ρ' → σ'[0]? = some (some v0) → Rep c.K G' v d → E.rt ρ' d → D.rt v H') → ts D σ H
section
variable {v0 : V} {c : Ctx} {ts us : TS} {te tb : TE} {tt : TT} {ρ : List Sl} {E : DEn}
theorem dsk_seq (h : DSk v0 c ts ρ { E with nx := fun ρ' => DSk v0 c us ρ' E }) : DSk v0 c (tSeq ts us) ρ E := fun σ G H I e D nx rt =>
  h σ G H I e { D with nx := us D } (fun σ' G' H' ρ' gg I' e' p => p σ' G' H' I' e' D (fun σ2 G2 H2 ρ2 g2 => nx σ2 G2 H2 ρ2 (gg.trans g2)) rt) rt
theorem dsk_seqI (J : List Sl → Prop) (h1 : DSk v0 c ts ρ { E with nx := J }) (h2 : ∀ ρ', J ρ' → DSk v0 c us ρ' E) : DSk v0 c (tSeq ts us) ρ E := dsk_seq fun σ G H I e D nx rt =>
  h1 σ G H I e D (fun σ' G' H' ρ' gg I' e' p => nx σ' G' H' ρ' gg I' e' (h2 ρ' p)) rt
theorem ds_seqI (J : List Sl → Prop) (h1 : DS c ts ρ { E with nx := J }) (h2 : ∀ ρ', J ρ' → DS c us ρ' E) : DS c (tSeq ts us) ρ E := ds_seq (h1.imp h2 (fun _ _ z => z) (fun _ z => z) fun _ z => z)
theorem dsk_ret (h : DE c te ρ fun d => E.rt ρ d) : DSk v0 c (tRet te) ρ E := fun σ G H I e D nx rt => h σ G H I _ fun v d G1 H1 s r p => rt v d σ G1 H1 ρ (I.step s) e r p
theorem dsk_next (p : E.nx ρ) : DSk v0 c tNext ρ E := fun σ G H I e D nx rt => nx σ G H ρ (Ex.refl G) I e p
theorem dsk_if (h : DT c tt ρ fun b => if b = true then DSk v0 c ts ρ E else DSk v0 c us ρ E) : DSk v0 c (tIfS tt ts us) ρ E := fun σ G H I e D nx rt =>
  h σ G H I _ fun b G1 H1 s p => by
    cases b with
    | true =>
      rw [if_pos rfl] at p ⊢
      exact p σ G1 H1 (I.step s) e D (fun σ2 G2 H2 ρ2 g2 => nx σ2 G2 H2 ρ2 (s.gg.trans g2)) rt
    | false =>
      rw [if_neg Bool.false_ne_true] at p ⊢
      exact p σ G1 H1 (I.step s) e D (fun σ2 G2 H2 ρ2 g2 => nx σ2 G2 H2 ρ2 (s.gg.trans g2)) rt
theorem dsk_set {i : Nat} (hi : Nat.ble (i + 2) ρ.length = true) (h : DE c te ρ fun d => E.nx (ρ.set (i + 1) (.dt d))) : DSk v0 c (tAsg te (gName (i + 1))) ρ E := fun σ G H I e D nx rt =>
  h σ G H I _ fun v d G1 H1 s r p => nx _ G1 H1 _ s.gg ((I.step s).setD (Nat.le_of_ble_eq_true hi) r) (by rw [List.getElem?_set_ne (by omega)]; exact e) p
theorem dsk_put {i : Nat} {xs : List Dt} (hi : ρ[i]? = some (.own xs)) (h : DE c te ρ fun d => DE c tb ρ fun e => ∃ (k : Int) (j : Nat), e = .int k ∧ ixN xs.length k = some j ∧ E.nx (ρ.set i (.own (xs.set j d)))) : DSk v0 c (tAsg te (gSub (tVar i) tb rSetL)) ρ E := fun σ G H I e0 D nx rt =>
  h σ G H I _ fun v d G1 H1 s1 r1 h1 => by
    have I1 := I.step s1
    obtain ⟨a, ys, e, g1, g2, g3, r⟩ := I1.ownAt hi
    refine ⟨.ref a, e, h1 σ G1 H1 I1 _ fun v2 d2 G2 H2 s2 r2 h2 => ?_⟩
    obtain ⟨k, j, rfl, h2, p⟩ := h2
    have I2 := I1.step s2
    obtain ⟨a', ys', e', g1', g2', g3', r'⟩ := I2.ownAt hi
    rw [e] at e'
    cases e'
    exact ⟨a, ys', k, j, rfl, rep_int r2, g3', by rw [r'.length]; exact h2, nx σ G2 _ _ (s1.trans s2).gg (I2.updOwn hi e (r'.set (r1.mono s2.gg) j)) e0 p⟩
end
abbrev handL (cs : List Int) (i r t : Int) : List Dt := [.lst (cs.map .int), .int i, .int r, .int t]
def unh (H : Hp) (l : Addr) : Hp := fun a => if a = l then none else H a
theorem unh_ne {H : Hp} {l a : Addr} (h : a ≠ l) : unh H l a = H a := by unfold unh; rw [if_neg h]
theorem env_startT {K : PySem.W.Frag} {G H : Hp} {N : List Str} {l : Addr} {us : List V} {ds : List Dt} (e : Ex G H) (ha : HandAt K G H l) (r : Reps K G us ds) :
    ∃ cs i q t, HandI cs i q t ∧ Env ⟨K, G, unh H l, none⟩ (L2.start N (.ref l :: us)) G H (.own (handL cs i q t) :: (ds.map .dt ++ List.replicate (N.length - (ds.length + 1)) .no)) := by
  have I := env_startH (N := N) e ha r
  obtain ⟨g, c, cs, i, q, t, h1, h2, h3⟩ := ha
  have first : (L2.start N (.ref l :: us))[0]? = some (some (.ref l)) := rfl
  refine ⟨cs, i, q, t, h3, ⟨e, Ex.refl G, fun a z1 z2 => ⟨z2, fun _ => ?_⟩, fun l z => by cases z⟩, I.len, fun j s hs => ?_, fun j j' xs ys a hj hj' => ?_⟩
  · by_cases z : a = l
    · subst z
      exact absurd (if_pos rfl) z1
    · exact (unh_ne z).symm
  · cases j with
    | zero =>
      cases hs
      exact ⟨l, _, first, g, if_pos rfl, h1, .cons h2 (.cons (.int _) (.cons (.int _) (.cons (.int _) .nil)))⟩
    | succ j =>
      have q := I.sl (j + 1) s hs
      cases s with
      | no => trivial
      | dt d => exact q
      | own xs =>
        exfalso
        have := start_noOwn (N := N.drop 1) (ds := ds) (i := j) (xs := xs)
        unfold start9 at this
        rw [List.length_drop, show N.length - 1 - ds.length = N.length - (ds.length + 1) by omega] at this
        exact this (by simpa using hs)
      | hand =>
        exfalso
        obtain ⟨l', q1, q2⟩ := q
        have : (ds.map Sl.dt ++ List.replicate (N.length - (ds.length + 1)) .no)[j]? = some .hand := by simpa using hs
        have := List.mem_of_getElem? this
        rcases List.mem_append.mp this with m | m
        · obtain ⟨d, _, z⟩ := List.mem_map.mp m
          cases z
        · have := List.eq_of_mem_replicate m
          cases this
      | raw v => exact q
  · have only : ∀ {j : Nat} {xs : List Dt}, (Sl.own (handL cs i q t) :: (ds.map Sl.dt ++ List.replicate (N.length - (ds.length + 1)) .no))[j]? = some (.own xs) → j = 0 := fun {j xs} hj => by
      cases j with
      | zero => rfl
      | succ j =>
        exfalso
        have := start_noOwn (N := N.drop 1) (ds := ds) (i := j) (xs := xs)
        unfold start9 at this
        rw [List.length_drop, show N.length - 1 - ds.length = N.length - (ds.length + 1) by omega] at this
        exact this (by simpa using hj)
    intro _ _
    rw [only hj, only hj']
section
variable {P : Program} {w : World} {K : PySem.W.Frag} {mg : Str → Option Value} {base : Heap}
theorem rep_handL {G : Hp} {ys : List V} {cs : List Int} {i r t : Int} (h : Reps K G ys (handL cs i r t)) : ∃ c : Addr, ys = [.ref c, .int i, .int r, .int t] ∧ Rep K G (.ref c) (.lst (cs.map .int)) := by
  cases h with
  | cons h1 h =>
    cases h with
    | cons h2 h =>
      cases h with
      | cons h3 h =>
        cases h with
        | cons h4 h =>
          cases h
          cases h2
          cases h3
          cases h4
          cases h1 with
          | lst a b => exact ⟨_, rfl, .lst a b⟩
theorem ok_T {x qual : Str} {st : Stmt} {f : Addr} {fd : FuncData} {N ps : List Str} {k : Nat} {pre : List Dt → (Dt → Prop) → Prop} (F : Fun K x qual st f fd) (S : FnScope N ps (defScope st)) (len : ∀ ds Q, pre ds Q → ds.length + 1 = ps.length)
    (hbody : ∀ (cdv : Value) (A : Around) (outer : List PySem.Env) (s : Shared) (H : Hp) (E : XK), Room k (A.deeper (envOfC qual (defScope st) s.heap.objs.size f cdv)) →
      ∃ t, PSs (cxOf CX0 P w K mg base N qual (defScope st) f cdv A outer s H E).nox (defBody st) t ∧ ∀ (G0 H0 : Hp) (ds : List Dt) (Q : Dt → Prop), pre ds Q → ∀ v0 cs i r t0, HandI cs i r t0 →
        DSk v0 ⟨K, G0, H0, none⟩ t (.own (handL cs i r t0) :: (ds.map .dt ++ List.replicate (N.length - (ds.length + 1)) .no)) { nx := fun _ => False, rt := fun ρ d => Q d ∧ ∃ cs i r t, ρ[0]? = some (.own (handL cs i r t)) ∧ HandI cs i r t }) :
    FnOk P w K mg base CX0 (k + 1) f fd ps (spH K pre) :=
  F.ok S (fun vs H Q E ⟨G, l, us, ds, R, e0, e, ha, r, p, q⟩ => by rw [e0, List.length_cons, r.length]; exact len ds R p) fun cdv A outer s H vs Q E hr ⟨G, l, us, ds, R, e0, e, ha, r, p, q⟩ => by
    subst e0
    obtain ⟨t, h1, h2⟩ := hbody cdv A outer s H E hr
    obtain ⟨cs, i, r0, t0, hi, I⟩ := env_startT (N := N) e ha r
    refine ⟨t, h1, h2 G (unh H l) ds R p (.ref l) cs i r0 t0 hi (L2.start N (.ref l :: us)) G H I rfl _ (fun σ' G' H' ρ' _ _ _ z => z.elim) (fun v d σ' G' H' ρ' I' e' rv z => ?_)⟩
    obtain ⟨z, cs', i', r', t', hs, hi'⟩ := z
    obtain ⟨a, ys, q1, q2, _, q3, q4⟩ := I'.ownAt hs
    rw [e'] at q1
    cases q1
    obtain ⟨c, rfl, q5⟩ := rep_handL q4
    refine q v d G' H' I'.gd.g0 I'.gd.gh (fun a z1 z2 => ?_) ⟨q2, c, cs', i', r', t', q3, q5, hi'⟩ rv z
    by_cases za : a = l
    · subst za
      exact ⟨q2, fun z => absurd rfl z⟩
    · have := I'.gd.fr a (show unh H l a ≠ none by rw [unh_ne za]; exact z1) z2
      exact ⟨this.1, fun _ => (this.2 (fun z => by cases z)).trans (unh_ne za)⟩
/-- the hand is laid from the script -/
def spW (K : PySem.W.Frag) : Sp := fun vs H Q _ => ∃ (G : Hp) (v : V) (ns : List Int), vs = [v] ∧ Ex G H ∧ Rep K G v (.scr ns) ∧ ns.length ≤ 63 ∧
  ∀ l G' H', Ex G G' → Ex G' H' → (∀ a, H a ≠ none → G a = none → G' a = none ∧ H' a = H a) → H l = none → HandAt K G' H' l → Q (.ref l) H'
end
theorem Env.freeze {c : Ctx} {σ : L2.St} {G H : Hp} {ρ : List Sl} {i : Nat} {xs : List Dt} (I : Env c σ G H ρ) (hi : ρ[i]? = some (.own xs)) : ∃ G', Ex G G' ∧ Env c σ G' H (ρ.set i (.dt (.lst xs))) := by
  have h : DS c tNext ρ { nx := fun ρ' => ρ' = ρ.set i (.dt (.lst xs)), rt := fun _ _ => False } := ds_freeze hi (ds_next rfl)
  exact h σ G H I { nx := fun σ' H' => ∃ G', Ex G G' ∧ Env c σ' G' H' (ρ.set i (.dt (.lst xs))), rt := fun _ _ => False } (fun σ' G' H' ρ' g I' e => ⟨G', g, by rw [← e]; exact I'⟩) (fun _ _ _ _ _ _ _ _ z => z.elim) (fun _ _ _ _ _ _ z => z.elim) fun _ _ _ _ _ _ z => z.elim
theorem dsr_freeze {c : Ctx} {ts : TS} {ρ : List Sl} {D : Ends} {i : Nat} {xs : List Dt} (hi : ρ[i]? = some (.own xs)) (h : DSr c ts (ρ.set i (.dt (.lst xs))) D) : DSr c ts ρ D := fun σ G H I => by
  obtain ⟨G', _, I'⟩ := I.freeze hi
  exact h σ G' H I'
theorem dsr_retHand {K : PySem.W.Frag} {G0 H0 : Hp} {te : TE} {ρ : List Sl} {D : Ends} (k : ∀ l G' H', Ex G0 G' → Ex G' H' → (∀ a, H0 a ≠ none → G0 a = none → G' a = none ∧ H' a = H0 a) → H0 l = none → HandAt K G' H' l → D.rt (.ref l) H')
    (h : DL ⟨K, G0, H0, none⟩ te ρ fun xs => ∃ cs i r t, xs = handL cs i r t ∧ HandI cs i r t) : DSr ⟨K, G0, H0, none⟩ (tRet te) ρ D := fun σ G H I => h σ G H I _ fun p ys xs G' H' s hp g h' r ⟨cs, i, q, t, e, hi⟩ => by
  subst e
  have g2 := I.gd.step s
  obtain ⟨c, rfl, q5⟩ := rep_handL r
  exact k p G' H' g2.g0 g2.gh (fun a z1 z2 => ⟨(g2.fr a z1 z2).1, (g2.fr a z1 z2).2 fun z => by cases z⟩) (I.gd.h0 hp) ⟨g, c, cs, i, q, t, h', q5, hi⟩
theorem ok_W {P : Program} {w : World} {K : PySem.W.Frag} {mg : Str → Option Value} {base : Heap} {x qual : Str} {st : Stmt} {f : Addr} {fd : FuncData} {N ps : List Str} {k : Nat} (F : Fun K x qual st f fd) (S : FnScope N ps (defScope st)) (len : ps.length = 1)
    (hbody : ∀ (cdv : Value) (A : Around) (outer : List PySem.Env) (s : Shared) (H : Hp) (E : XK), Room k (A.deeper (envOfC qual (defScope st) s.heap.objs.size f cdv)) →
      ∃ t, PSs (cxOf CX0 P w K mg base N qual (defScope st) f cdv A outer s H E).nox (defBody st) t ∧ ∀ (G0 H0 : Hp) (ns : List Int) (D : Ends), ns.length ≤ 63 → (∀ l G' H', Ex G0 G' → Ex G' H' → (∀ a, H0 a ≠ none → G0 a = none → G' a = none ∧ H' a = H0 a) → H0 l = none → HandAt K G' H' l → D.rt (.ref l) H') →
        DSr ⟨K, G0, H0, none⟩ t (start9 N [.scr ns]) D) :
    FnOk P w K mg base CX0 (k + 1) f fd ps (spW K) :=
  F.ok S (fun vs H Q E ⟨G, v, ns, e0, e, r, hl, q⟩ => by rw [e0, len]; rfl) fun cdv A outer s H vs Q E hr ⟨G, v, ns, e0, e, r, hl, q⟩ => by
    subst e0
    obtain ⟨t, h1, h2⟩ := hbody cdv A outer s H E hr
    exact ⟨t, h1, h2 G H ns _ hl q (L2.start N [v]) G H (env_start e (.cons r .nil))⟩
theorem len_law_hand : [("_law_script" : Str)].length = 1 := rfl
def p_law_mixed (ds : List Dt) (Q : Dt → Prop) : Prop := ∃ i j : Int, ds = [.int i, .int j] ∧ 0 ≤ i ∧ i < 2147483647 ∧ 0 ≤ j ∧ j ≤ 63 ∧ ∀ r, 0 ≤ r → Q (.int r)
theorem len_law_mixed {ds : List Dt} {Q : Dt → Prop} (h : p_law_mixed ds Q) : ds.length = 2 := by
  obtain ⟨_, _, rfl, _⟩ := h; rfl
def p_law_take (ds : List Dt) (Q : Dt → Prop) : Prop := ∃ n : Int, ds = [.int n] ∧ 0 < n ∧ n < 1073741824 ∧ ∀ r, 0 ≤ r → r < n → Q (.int r)
theorem len_law_take {ds : List Dt} {Q : Dt → Prop} (h : p_law_take ds Q) : ds.length + 1 = 2 := by
  obtain ⟨_, rfl, _⟩ := h; rfl
theorem mul_sm {i j : Int} (hi : i.natAbs < 2 ^ 70) (hj : j.natAbs < 2 ^ 70) : CMulW i j := wide_mul (a := 70) (b := 70) hi hj (by decide) (by decide) (by decide)
theorem div_sm {i j : Int} (h : 0 < j) (hj : j.natAbs < 2 ^ 70) : CDivW i j := wide_div (b := 70) h hj (by decide) (by decide)
local macro_rules | `(tactic| walk_at "d1") => `(tactic| first
  | with_reducible refine ds_seq ?_
  | with_reducible refine dsr_seq ?_
  | with_reducible refine ds_ret ?_
  | with_reducible refine ds_retN ?_
  | with_reducible refine ds_next ?_
  | with_reducible refine ds_own rfl (dl_list ?_)
  | with_reducible refine ds_own rfl (dl_lst ?_)
  | with_reducible refine ds_app rfl ?_ ?_
  | with_reducible refine ds_put rfl ?_
  | with_reducible refine ds_set rfl ?_
  | with_reducible refine ds_asg ?_
  | with_reducible refine ds_if ?_
  | with_reducible refine ds_par rfl rfl ?_
  | with_reducible refine de_var rfl ?_
  | with_reducible refine de_int ?_
  | with_reducible refine de_bl ?_
  | with_reducible refine de_non ?_
  | with_reducible refine de_str ?_
  | with_reducible refine de_add ?_
  | with_reducible refine de_mul ?_
  | with_reducible refine de_ix_own rfl ?_
  | with_reducible refine de_ix ?_
  | with_reducible refine de_call ?_
  | with_reducible refine de_callH rfl ?_
  | with_reducible refine de_callD (dds := [.non, .non]) (fun _ => .cons .non (.cons .non .nil)) ?_
  | with_reducible refine de_callD (dds := [.non]) (fun _ => .cons .non .nil) ?_
  | with_reducible refine de_chainI ?_
  | with_reducible refine de_opI0 ?_
  | with_reducible refine de_opI ?_
  | with_reducible refine de_opB0 ?_
  | with_reducible refine de_isN ?_
  | with_reducible refine de_notN ?_
  | with_reducible refine de_eqD ?_
  | with_reducible refine de_ne_own rfl ?_
  | with_reducible refine de_neD ?_
  | with_reducible refine de_neg ?_
  | with_reducible refine de_len_own rfl ?_
  | with_reducible refine de_len ?_
  | with_reducible refine de_int1 ?_
  | with_reducible refine de_abs ?_
  | with_reducible refine de_min2 ?_
  | with_reducible refine de_max2 ?_
  | with_reducible refine de_tuple_own rfl ?_
  | with_reducible refine de_tup ?_
  | with_reducible refine de_if ?_
  | with_reducible refine de_isBl ?_
  | with_reducible refine de_isIn ?_
  | with_reducible refine de_isTu ?_
  | with_reducible refine de_isLT ?_
  | with_reducible refine de_andV ?_
  | with_reducible refine de_orV ?_
  | with_reducible refine de_notT ?_
  | with_reducible refine de_fld ?_
  | with_reducible refine de_slice ?_
  | with_reducible refine do_none ?_
  | with_reducible refine do_some ?_
  | with_reducible refine dt_test ?_
  | with_reducible refine dt_tru ?_
  | with_reducible refine dt_and ?_
  | with_reducible refine dt_or ?_
  | with_reducible refine dt_not ?_
  | with_reducible refine da_cons ?_
  | with_reducible refine da_nil ?_
  | with_reducible refine de_lst ?_
  | with_reducible refine de_of_dl (dl_list ?_)
  | with_reducible refine de_mkLimits ?_
  | with_reducible refine de_mkClash ?_
  | with_reducible refine de_lenLim ?_)
local macro_rules | `(tactic| walk_at "d2") => `(tactic| first
  | walk_at "d1"
  | with_reducible refine iteT ?_
  | with_reducible refine iteF ?_
  | with_reducible refine ite_f Bool.not_true ?_
  | with_reducible refine ite_t Bool.not_false ?_
  | (with_reducible refine Exists.intro _ (Exists.intro _ (And.intro rfl (And.intro rfl ?_))))
  | (with_reducible refine Exists.intro _ (And.intro rfl ?_))
  | (with_reducible refine .inl (Exists.intro _ (Exists.intro _ (And.intro rfl (And.intro rfl ?_)))))
  | (refine ⟨_, _, _, .inr rfl, rfl, rfl, ?_⟩)
  | (refine ⟨Nat.le_of_ble_eq_true rfl, ?_⟩)
  | (with_reducible refine And.intro rfl ?_)
  | (with_reducible refine And.intro (by walk_at "mul") ?_)
  | (with_reducible refine And.intro (by walk_at "shd") ?_))
local macro_rules | `(tactic| walk_at "dd") => `(tactic| (repeat walk_at "d2"))
local macro_rules | `(tactic| walk_at "set") => `(tactic| simp only [List.set_cons_zero, List.set_cons_succ])
local macro_rules | `(tactic| walk_at "mul") => `(tactic| first
  | exact mul_nd (by assumption) (by assumption) | exact mul_nn (by assumption) (by assumption) | exact mul_dd (by assumption) (by assumption))
local macro_rules | `(tactic| walk_at "shd") => `(tactic| first
  | exact shD_int _ | exact shD_non | exact shD_rat _ | exact shD_tupTab _ _ | with_reducible assumption)
local macro_rules | `(tactic| walk_at "tg") => `(tactic| refine dg_tup ⟨_, rfl, rfl, dgs_cons (dg_name0 rfl (dgs_cons (dg_name0 rfl (dgs_nil ?_))))⟩)
local macro_rules | `(tactic| walk_at "wp") => `(tactic| simp only [wipeD, List.map_cons, List.map_nil, List.set_cons_zero, List.set_cons_succ])
section
variable {P : Program} {w : World} {K : PySem.W.Frag} {mg : Str → Option Value} {base : Heap} {CL CC CB : Addr}
theorem ok_law_mixed (T : Txt K mg CL CC CB) (D : Def K mg "_law_mixed" s_law_mixed)   :
    Cal P w K mg base "_law_mixed" 1 ["_law_number", "_law_turn"] (spD K p_law_mixed) := by
  obtain ⟨f, fd, F, hg⟩ := D
  refine ⟨f, fd, ok_D (k := 0) F sc_law_mixed (fun ds Q h => len_law_mixed h) (fun cdv A outer s H E hr => ⟨_, (pss_cons (ps_set (i := 2) sc_law_mixed.nd rfl (Or.inl rfl) (pe_op op_mod (pe_int1 T.bi (pe_op op_addA (pe_op op_addA (pe_op op_mulA (pv 0) pe_int) (pe_op op_mulA (pv 1) pe_int)) pe_int)) pe_int))
    (pss_cons (ps_set (i := 3) sc_law_mixed.nd rfl (Or.inl rfl) (pe_op op_mod (pe_int1 T.bi (pe_op op_addA (pe_op op_addA (pe_op op_mulA (pv 2) (pv 2)) (pe_op op_mulA (pv 1) pe_int)) (pe_op op_fdivW (pv 2) pe_int))) pe_int))
    (pss_one (ps_ret (pe_op op_fdivW (pe_int1 T.bi (pe_op op_mod (pe_int1 T.bi (pe_op op_addA (pe_op op_mulA (pv 3) pe_int) (pe_op op_fdivW (pv 2) pe_int))) pe_int)) pe_int))))), fun G0 H0 ds Q h => ?_⟩), hg, F.kp, F.binds fun _ _ _ _ _ _ us hl => match us, hl with | [_, _], _ => rfl⟩
  try dsimp only [cxOf, Cx.nox, Cx.wish]
  obtain ⟨i, j, rfl, hi, hi2, hj, hj2, k⟩ := h
  change DS _ _ [_, _, .no, .no] _
  have nn : ∀ {x m : Int}, 0 < m → 0 ≤ x % m := fun {x m} hm => Int.emod_nonneg x (by omega)
  have lt : ∀ {x m : Int}, 0 < m → x % m < m := fun {x m} hm => Int.emod_lt_of_pos x hm
  walk_at "dd"
  refine ⟨mul_sm (by omega) (by omega), ?_⟩
  walk_at "dd"
  refine ⟨mul_sm (by omega) (by omega), ?_⟩
  walk_at "dd"
  refine ⟨by decide, ?_⟩
  walk_at "set"
  generalize ho : (i * 48271 + j * 7919 + 65537) % 2147483647 = o
  have o0 : 0 ≤ o := by rw [← ho]; exact nn (by decide)
  have o1 : o < 2147483647 := by rw [← ho]; exact lt (by decide)
  walk_at "dd"
  refine ⟨mul_sm (by omega) (by omega), ?_⟩
  walk_at "dd"
  refine ⟨mul_sm (by omega) (by omega), ?_⟩
  walk_at "dd"
  refine ⟨div_sm (by decide) (by decide), ?_⟩
  walk_at "dd"
  refine ⟨by decide, ?_⟩
  walk_at "set"
  generalize hw : (o * o + j * 104729 + o / 127) % 2147483629 = wv
  have w0 : 0 ≤ wv := by rw [← hw]; exact nn (by decide)
  have w1 : wv < 2147483629 := by rw [← hw]; exact lt (by decide)
  walk_at "dd"
  refine ⟨mul_sm (by omega) (by omega), ?_⟩
  walk_at "dd"
  refine ⟨div_sm (by decide) (by decide), ?_⟩
  walk_at "dd"
  refine ⟨by decide, ?_⟩
  walk_at "dd"
  refine ⟨div_sm (by decide) (by decide), ?_⟩
  exact k _ (Int.ediv_nonneg (nn (by decide)) (by decide))
theorem ok_law_take (T : Txt K mg CL CC CB) (D : Def K mg "_law_take" s_law_take) (C_law_mixed : Cal P w K mg base "_law_mixed" 1 ["_law_number", "_law_turn"] (spD K p_law_mixed))  :
    Cal P w K mg base "_law_take" 2 ["_law_hand_here", "_law_many_here"] (spH K p_law_take) := by
  obtain ⟨f, fd, F, hg⟩ := D
  refine ⟨f, fd, ok_T (k := 1) F sc_law_take (fun ds Q h => len_law_take h) (fun cdv A outer s H E hr => ⟨_, (pss_cons (ps_if (PW.pt (pw_and (pt_cmpR (op_eqD hr.units) (pe_ix ix_seq (pv 0) pe_int (fun _ _ => rfl)) pe_int (nomark _)) (pw_and1 (pt_cmpR op_lt (pe_ix ix_seq (pv 0) pe_int (fun _ _ => rfl)) (pe_len T.bi (pe_ix ix_seq (pv 0) pe_int (fun _ _ => rfl))) (nomark _))))) (pss_cons (ps_set (i := 2) sc_law_take.nd rfl (Or.inl rfl) (pe_ix ix_seq (pe_ix ix_seq (pv 0) pe_int (fun _ _ => rfl)) (pe_ix ix_seq (pv 0) pe_int (fun _ _ => rfl)) (fun _ _ => rfl)))
    (pss_cons (ps_asg (pe_op op_addA (pe_ix ix_seq (pv 0) pe_int (fun _ _ => rfl)) pe_int) (pg_sub (pv 0) pe_int set_list))
    (pss_cons (ps_if (pt_cmpR op_lt (pv 2) (pe_op op_pow pe_int pe_int) (nomark _)) (pss_one (ps_ret (pe_op op_mod (pe_int1 T.bi (pe_cal C_law_mixed hr (by decide) rfl (pa_cons (pe_op op_mod (pe_int1 T.bi (pv 2)) pe_int) (pa_cons (pe_ix ix_seq (pv 0) pe_int (fun _ _ => rfl)) pa_nil)))) (pv 1)))) pss_nil)
    (pss_one (ps_asg (pv 2) (pg_sub (pv 0) pe_int set_list)))))) pss_nil)
    (pss_cons (ps_if (pt_cmpR op_gt (pe_ix ix_seq (pv 0) pe_int (fun _ _ => rfl)) pe_int (nomark _)) (pss_cons (ps_set (i := 3) sc_law_take.nd rfl (Or.inl rfl) (pe_ix ix_seq (pv 0) pe_int (fun _ _ => rfl)))
    (pss_cons (ps_asg (pe_op op_fdivW (pe_int1 T.bi (pv 3)) (pv 1)) (pg_sub (pv 0) pe_int set_list))
    (pss_one (ps_ret (pe_op op_mod (pe_int1 T.bi (pv 3)) (pv 1)))))) pss_nil)
    (pss_cons (ps_asg (pe_op op_mod (pe_int1 T.bi (pe_op op_addA (pe_ix ix_seq (pv 0) pe_int (fun _ _ => rfl)) pe_int)) pe_int) (pg_sub (pv 0) pe_int set_list))
    (pss_one (ps_ret (pe_op op_mod (pe_int1 T.bi (pe_cal C_law_mixed hr (by decide) rfl (pa_cons (pe_ix ix_seq (pv 0) pe_int (fun _ _ => rfl)) (pa_cons (pe_ix ix_seq (pv 0) pe_int (fun _ _ => rfl)) pa_nil)))) (pv 1))))))), fun G0 H0 ds Q h => ?_⟩), hg, F.kp, F.binds fun _ _ _ _ _ _ us hl => match us, hl with | [_, _], _ => rfl⟩
  try dsimp only [cxOf, Cx.nox, Cx.wish]
  obtain ⟨n, rfl, hn, hn2, k⟩ := h
  intro v0 cs i r t hi
  change DSk _ _ _ [.own (handL cs i r t), .dt (.int n), .no, .no] _
  have fin : ∀ {x : Int}, Q (.int (x % n)) := fun {x} => k _ (Int.emod_nonneg x (by omega)) (Int.emod_lt_of_pos x hn)
  refine dsk_seqI (fun ρ => ∃ i r t x2 x3, HandI cs i r t ∧ ρ = [.own (handL cs i r t), .dt (.int n), x2, x3]) ?_ ?_
  · refine dsk_if ?_
    walk_at "dd"
    rw [deq_int]
    by_cases e : r = 0
    · refine ite_t (by rw [e]; rfl) ?_
      walk_at "dd"
      refine .inl ⟨_, .inl rfl, ?_⟩
      walk_at "dd"
      rw [List.length_map]
      by_cases hl : i < cs.length
      · refine ite_t (decide_eq_true hl) ?_
        obtain ⟨j, rfl⟩ : ∃ j : Nat, i = (j : Int) := ⟨i.toNat, by have := hi.i0; omega⟩
        obtain ⟨x, hx⟩ : ∃ x, cs[j]? = some x := ⟨cs[j]'(by omega), List.getElem?_eq_getElem _⟩
        have x0 := hi.c0 x (List.mem_of_getElem? hx)
        have cl := hi.cl
        refine dsk_seq (dsk_set rfl ?_)
        walk_at "dd"
        refine ⟨_, _, _, .inl rfl, rfl, atI_nat (j := j) (v := .int x) (by rw [List.getElem?_map, hx]; rfl), ?_⟩
        walk_at "set"
        refine dsk_seq (dsk_put rfl ?_)
        walk_at "dd"
        change DSk _ _ _ [.own (handL cs ((j : Int) + 1) r t), .dt (.int n), .dt (.int x), .no] _
        refine dsk_seq (dsk_if ?_)
        walk_at "dd"
        refine ⟨⟨by decide, by decide, by decide⟩, ?_⟩
        walk_at "dd"
        have hi2 : HandI cs ((j : Int) + 1) r t := ⟨hi.c0, hi.cl, by omega, by omega, hi.r0, hi.t0, hi.t1⟩
        by_cases hb : x < 10 ^ 18
        · refine ite_t (decide_eq_true hb) ?_
          refine dsk_ret ?_
          walk_at "dd"
          refine ⟨by decide, ?_⟩
          walk_at "dd"
          refine ⟨_, _, rfl, Int.emod_nonneg x (by decide), Int.emod_lt_of_pos x (by decide), by omega, by omega, fun r' hr' => ?_⟩
          refine ⟨_, rfl, ?_⟩
          walk_at "dd"
          exact ⟨fin, _, _, _, _, rfl, hi2⟩
        · refine ite_f (decide_eq_false hb) ?_
          refine dsk_next ?_
          refine dsk_put rfl ?_
          walk_at "dd"
          exact ⟨_, x, _, _, _, ⟨hi.c0, hi.cl, by omega, by omega, x0, hi.t0, hi.t1⟩, rfl⟩
      · refine ite_f (decide_eq_false hl) ?_
        refine dsk_next ?_
        exact ⟨_, _, _, _, _, hi, rfl⟩
    · refine ite_f (by simp; exact e) ?_
      refine ite_f rfl ?_
      refine dsk_next ?_
      exact ⟨_, _, _, _, _, hi, rfl⟩
  · clear hi
    rintro ρ ⟨i, r, t, x2, x3, hi, rfl⟩
    have cl := hi.cl
    have i0 := hi.i0
    have i1 := hi.i1
    have r0 := hi.r0
    refine dsk_seqI (fun ρ => ∃ x2 x3, ρ = [.own (handL cs i r t), .dt (.int n), x2, x3]) ?_ ?_
    · refine dsk_if ?_
      walk_at "dd"
      by_cases e : 0 < r
      · refine ite_t (decide_eq_true e) ?_
        refine dsk_seq (dsk_set rfl ?_)
        walk_at "dd"
        walk_at "set"
        refine dsk_seq (dsk_put rfl ?_)
        walk_at "dd"
        refine ⟨div_sm hn (by omega), ?_⟩
        walk_at "dd"
        change DSk _ _ _ [.own (handL cs i (r / n) t), .dt (.int n), x2, .dt (.int r)] _
        refine dsk_ret ?_
        walk_at "dd"
        exact ⟨fin, _, _, _, _, rfl, ⟨hi.c0, hi.cl, hi.i0, hi.i1, Int.ediv_nonneg r0 (by omega), hi.t0, hi.t1⟩⟩
      · refine ite_f (decide_eq_false e) ?_
        refine dsk_next ?_
        exact ⟨_, _, rfl⟩
    · rintro ρ ⟨x2, x3, rfl⟩
      have hi2 : HandI cs i r ((t + 1) % 2147483629) := ⟨hi.c0, hi.cl, hi.i0, hi.i1, hi.r0, Int.emod_nonneg _ (by decide), Int.emod_lt_of_pos _ (by decide)⟩
      have t0 := hi2.t0
      have t1 := hi2.t1
      refine dsk_seq (dsk_put rfl ?_)
      walk_at "dd"
      refine ⟨by decide, ?_⟩
      walk_at "dd"
      change DSk _ _ _ [.own (handL cs i r ((t + 1) % 2147483629)), .dt (.int n), x2, x3] _
      refine dsk_ret ?_
      walk_at "dd"
      refine ⟨_, _, rfl, t0, by omega, by omega, by omega, fun r' hr' => ?_⟩
      refine ⟨_, rfl, ?_⟩
      walk_at "dd"
      exact ⟨fin, _, _, _, _, rfl, hi2⟩
theorem ok_law_hand (T : Txt K mg CL CC CB) (D : Def K mg "_law_hand" s_law_hand) :
    Cal P w K mg base "_law_hand" 1 ["_law_script"] (spW K) := by
  obtain ⟨f, fd, F, hg⟩ := D
  refine ⟨f, fd, ok_W (k := 0) F sc_law_hand rfl (fun cdv A outer s H E hr => ⟨_, (pss_cons (ps_set (i := 1) sc_law_hand.nd rfl (Or.inl rfl) (pe_op op_addA (pe_len T.bi (pv 0)) pe_int))
    (pss_cons (ps_set (i := 2) sc_law_hand.nd rfl (Or.inl rfl) (pe_lst pa_nil))
    (pss_cons (ps_for PassesOwn.never rfl (pi_list (pv 0)) (pg_name (i := 3) sc_law_hand.nd rfl (Or.inl rfl)) (pss_cons (ps_set (i := 1) sc_law_hand.nd rfl (Or.inl rfl) (pe_op op_mod (pe_int1 T.bi (pe_op op_addA (pe_op op_mulA (pv 1) pe_int) (pe_int1 T.bi (pv 3)))) pe_int))
    (pss_one (ps_expr (pe_bm PySem.F.plainAttrs_list PySem.F.slot_list_append PySem.F.type_list_append mt_append (pv 2) (pa_cons (pe_ifExp (pt_cmpR op_ge (pv 3) pe_int (nomark _)) (pe_int1 T.bi (pv 3)) (pe_un un_neg (pe_int1 T.bi (pv 3)))) pa_nil))))))
    (pss_one (ps_ret (pe_lst (pa_cons (pv 2) (pa_cons pe_int (pa_cons pe_int (pa_cons (pv 1) pa_nil)))))))))), fun G0 H0 ns D h1 h2 => ?_⟩), hg, F.kp, F.binds fun _ _ _ _ _ _ us hl => match us, hl with | [_], _ => rfl⟩
  try dsimp only [cxOf, Cx.nox, Cx.wish]
  change DSr _ _ [_, .no, .no, .no] _
  refine dsr_seq ?_
  walk_at "dd"
  refine .inr ⟨_, rfl, ?_⟩
  walk_at "dd"
  walk_at "set"
  refine ds_forL (fun xs i ρ => ∃ (cs : List Int) (t : Int) (x : Sl), cs.length = i ∧ (∀ y ∈ cs, 0 ≤ y) ∧ 0 ≤ t ∧ t < 2147483629 ∧ ρ = [.dt (.scr ns), .dt (.int t), .own (cs.map .int), x]) ?_
  refine de_var rfl ⟨_, .inr ⟨_, rfl, rfl⟩, ⟨[], _, _, rfl, fun y hy => absurd hy (by simp), by omega, by omega, rfl⟩, ?_, ?_⟩
  · rintro i x ρ hx ⟨cs, t, x3, hc, hy, t0, t1, rfl⟩
    rw [List.getElem?_map] at hx
    obtain ⟨n, hn, rfl⟩ : ∃ n, ns[i]? = some n ∧ x = .int n := by
      cases e : ns[i]? with
      | none => rw [e] at hx; cases hx
      | some n => rw [e] at hx; cases hx; exact ⟨n, rfl, rfl⟩
    have hi : i < ns.length := by
      have := List.getElem?_eq_some_iff.mp hn
      exact this.1
    refine dg_name0 rfl ?_
    walk_at "set"
    walk_at "dd"
    refine ⟨mul_sm (by omega) (by omega), ?_⟩
    walk_at "dd"
    refine ⟨by decide, ?_⟩
    walk_at "set"
    generalize hw : (t * 1019 + n) % 2147483629 = wv
    have w0 : 0 ≤ wv := by rw [← hw]; exact Int.emod_nonneg _ (by decide)
    have w1 : wv < 2147483629 := by rw [← hw]; exact Int.emod_lt_of_pos _ (by decide)
    refine ds_app rfl (by rw [List.length_map]; omega) ?_
    walk_at "dd"
    by_cases h0 : 0 ≤ n
    · refine ite_t (decide_eq_true h0) ?_
      walk_at "dd"
      walk_at "set"
      refine ⟨cs ++ [n], _, _, by rw [List.length_append, hc]; rfl, fun y hm => ?_, w0, w1, by rw [List.map_append]; rfl⟩
      rcases List.mem_append.mp hm with hm | hm
      · exact hy y hm
      · rw [List.mem_singleton.mp hm]; exact h0
    · refine ite_f (decide_eq_false h0) ?_
      walk_at "dd"
      walk_at "set"
      refine ⟨cs ++ [-n], _, _, by rw [List.length_append, hc]; rfl, fun y hm => ?_, w0, w1, by rw [List.map_append]; rfl⟩
      rcases List.mem_append.mp hm with hm | hm
      · exact hy y hm
      · rw [List.mem_singleton.mp hm]; omega
  · rintro ρ ⟨cs, t, x3, hc, hy, t0, t1, rfl⟩
    rw [List.length_map] at hc
    refine dsr_freeze (i := 2) rfl ?_
    walk_at "set"
    refine dsr_retHand h2 (dl_lst ?_)
    walk_at "dd"
    exact ⟨_, _, _, _, rfl, hy, by omega, by omega, by omega, by omega, t0, t1⟩
end
end K20
/-! Nv: sizes of what is drawn. -/
namespace K20
theorem mk_mul (i : Int) {d : Nat} (hd : 0 < d) : mkRat i d * (d : Rat) = (i : Rat) := by
  have hr : (0 : Rat) < (d : Rat) := Rat.natCast_pos.mpr hd
  have h0 : (d : Rat) ≠ 0 := fun z => by rw [z] at hr; exact Rat.lt_irrefl hr
  rw [Rat.mkRat_eq_div]
  exact Rat.div_mul_cancel h0
theorem one_cB : ((1 : Nat) : Rat) * BIG = BIG := by
  rw [show ((1 : Nat) : Rat) = 1 from rfl]
  grind
theorem Ni.of_mk {D d : Nat} {i : Int} (hd : 0 < d) (hD : d ∣ D) (hi : i.natAbs ≤ 2147483648) : Ni D 1 (mkRat i d) := by
  obtain ⟨f, rfl⟩ := hD
  have hm := mk_mul i hd
  have hr : (0 : Rat) < (d : Rat) := Rat.natCast_pos.mpr hd
  have h1 : (1 : Rat) ≤ (d : Rat) := by
    have : ((1 : Nat) : Rat) ≤ (d : Rat) := Rat.natCast_le_natCast.mpr hd
    exact this
  have hi1 : ((i : Int) : Rat) ≤ BIG := by
    rw [BIG_eq, ← Rat.intCast_natCast]
    exact Rat.intCast_le_intCast.mpr (by omega)
  have hi2 : -BIG ≤ ((i : Int) : Rat) := by
    rw [BIG_eq, ← Rat.intCast_natCast, ← Rat.intCast_neg]
    exact Rat.intCast_le_intCast.mpr (by omega)
  have hb : BIG * 1 ≤ BIG * (d : Rat) := Rat.mul_le_mul_of_nonneg_left h1 (Rat.le_of_lt BIG_pos)
  refine ⟨⟨i * f, ?_⟩, ?_, ?_⟩
  · rw [Rat.natCast_mul, Rat.intCast_mul, Rat.intCast_natCast, ← hm]
    grind
  · rw [one_cB]
    apply Rat.not_lt.mp
    intro z
    have := Rat.mul_lt_mul_of_pos_right z hr
    grind
  · rw [one_cB]
    apply Rat.not_lt.mp
    intro z
    have := Rat.mul_lt_mul_of_pos_right z hr
    grind
theorem Ni.btw {D E c : Nat} {a b x : Rat} (ha : Ni D c a) (hb : Ni D c b) (h : ∃ n : Int, x * (E : Rat) = (n : Rat)) (h1 : a ≤ x) (h2 : x ≤ b) : Ni E c x := by
  have q1 := ha.lo
  have q2 := hb.hi
  exact ⟨h, by grind, by grind⟩
/-- the shares: none, all, a half, a third -/
structure Fr (f : Rat) : Prop where
  lo : 0 ≤ f
  hi : f ≤ 1
  at_ : ∃ a : Int, f * 6 = (a : Rat)
theorem fr0 : Fr 0 := ⟨by decide, by decide, 0, by decide +kernel⟩
theorem fr1 : Fr 1 := ⟨by decide, by decide, 6, by decide +kernel⟩
theorem fr2 : Fr (mkRat 1 2) := ⟨by decide +kernel, by decide +kernel, 3, by decide +kernel⟩
theorem fr3 : Fr (mkRat 1 3) := ⟨by decide +kernel, by decide +kernel, 2, by decide +kernel⟩
theorem six : ((6 : Nat) : Rat) = 6 := rfl
theorem Ni.frac {D c : Nat} {p f : Rat} (h : Ni D c p) (hp : 0 ≤ p) (hf : Fr f) : Ni (D * 6) c (p * f) := by
  obtain ⟨a, e⟩ := h.at_
  obtain ⟨b, e2⟩ := hf.at_
  have h2 := h.hi
  have h3 := h.lo
  have q1 : p * 0 ≤ p * f := Rat.mul_le_mul_of_nonneg_left hf.lo hp
  have q2 : p * f ≤ p * 1 := Rat.mul_le_mul_of_nonneg_left hf.hi hp
  refine ⟨⟨a * b, ?_⟩, by grind, by grind⟩
  rw [Rat.natCast_mul, six, Rat.intCast_mul, ← e, ← e2]
  grind
theorem share_in {a b f : Rat} (h : a ≤ b) (hf : Fr f) : a ≤ a + (b - a) * f ∧ a + (b - a) * f ≤ b := by
  have hp : 0 ≤ b - a := by grind
  have q1 : (b - a) * 0 ≤ (b - a) * f := Rat.mul_le_mul_of_nonneg_left hf.lo hp
  have q2 : (b - a) * f ≤ (b - a) * 1 := Rat.mul_le_mul_of_nonneg_left hf.hi hp
  exact ⟨by grind, by grind⟩
theorem share_ni {D c : Nat} {a b f : Rat} (ha : Ni D c a) (hb : Ni D c b) (h : a ≤ b) (hf : Fr f) : Ni (D * 6) c (a + (b - a) * f) := by
  have q := share_in h hf
  refine ha.btw hb ?_ q.1 q.2
  have h1 := ha.lift (E := D * 6) ⟨6, rfl⟩
  have h2 := (hb.sub ha).frac (by grind) hf
  exact (h1.add h2).at_
theorem pow6 (D : Nat) {k n : Nat} (h : k ≤ n) : D * 6 ^ k ∣ D * 6 ^ n := Nat.mul_dvd_mul_left D (Nat.pow_dvd_pow 6 h)
/-! ### what is laid on the entry k, in the order in which it is drawn -/
section
variable {n : Nat} {m st : Nat → Option Rat} {ks : List (Nat × Rat)} {h : Nat → Rat}
def frame (n : Nat) (m st : Nat → Option Rat) (h : Nat → Rat) (k : Nat) : List Con := (0, ledF n m st k) :: (if 0 < k then [(h (k - 1), st (k - 1))] else [])
def knC (st : Nat → Option Rat) (ks : List (Nat × Rat)) (k : Nat) : List Con := (ks.filter fun p => k ≤ p.1).map fun p => (p.2, dist st k p.1)
theorem cons_eq (k : Nat) : consOf n m st ks h k = frame n m st h k ++ knC st ks k := rfl
theorem knC_skip {k j : Nat} {p : Nat × Rat} (hp : ks[j]? = some p) (hk : ¬ k ≤ p.1) : knC st (ks.take (j + 1)) k = knC st (ks.take j) k := by
  unfold knC
  rw [List.take_add_one, hp, List.filter_append]
  simp [hk]
theorem knC_next {k j : Nat} {p : Nat × Rat} (hp : ks[j]? = some p) (hk : k ≤ p.1) : knC st (ks.take (j + 1)) k = knC st (ks.take j) k ++ [(p.2, dist st k p.1)] := by
  unfold knC
  rw [List.take_add_one, hp, List.filter_append, List.map_append]
  simp [hk]
theorem hi_one (x : Option Rat) : hiC [(0, x)] = x := by
  show minB none (addB (some 0) x) = x
  rw [zero_add']
  rfl
theorem lo_one (x : Option Rat) : loC [(0, x)] = negB x := by
  show maxB none (addB (some 0) (negB x)) = negB x
  rw [zero_add']
  rfl
theorem hi_frame0 : hiC (frame n m st h 0) = ledF n m st 0 := hi_one _
theorem lo_frame0 : loC (frame n m st h 0) = negB (ledF n m st 0) := lo_one _
theorem frame_succ (k : Nat) : frame n m st h (k + 1) = [(0, ledF n m st (k + 1))] ++ [(h k, st k)] := by
  unfold frame
  rw [if_pos (by omega)]
  rfl
theorem min_none (a : Option Rat) : minB a none = a := by cases a <;> rfl
theorem max_none (a : Option Rat) : maxB a none = a := by cases a <;> rfl
theorem hi_frame (k : Nat) : hiC (frame n m st h (k + 1)) = minB (ledF n m st (k + 1)) (addB (some (h k)) (st k)) := by
  rw [frame_succ, hi_app, hi_one]
theorem lo_frame (k : Nat) : loC (frame n m st h (k + 1)) = maxB (negB (ledF n m st (k + 1))) (addB (some (h k)) (negB (st k))) := by
  rw [frame_succ, lo_app, lo_one]
theorem add_neg (a : Rat) (b : Option Rat) : addB (some a) (negB b) = b.map (a - ·) := by
  cases b with
  | none => rfl
  | some b => show some (a + -b) = some (a - b); rw [Rat.sub_eq_add_neg]
/-- how great what is laid on the entry k may be -/
theorem cons_ni {D c : Nat} (hL : NiB D 25 (ledF n m st k)) (hS : NiF D 1 st) (hn : n ≤ 24) (hh : 0 < k → Ni D (c + 25 + k) (h (k - 1))) (hk : k < n) (kn : KnSt n ks) (hv : ∀ p ∈ ks, Ni D c p.2) :
    ∀ x ∈ consOf n m st ks h k, NiB D (c + 26 + k) (addB (some x.1) x.2) ∧ NiB D (c + 26 + k) (addB (some x.1) (negB x.2)) := by
  have key : ∀ {a : Rat} {b : Option Rat} {c1 c2 : Nat}, Ni D c1 a → NiB D c2 b → c1 + c2 ≤ c + 26 + k → NiB D (c + 26 + k) (addB (some a) b) ∧ NiB D (c + 26 + k) (addB (some a) (negB b)) := fun ha hb hc =>
    ⟨((NiB.some ha).add hb).mono hc, ((NiB.some ha).add hb.neg).mono hc⟩
  intro x hx
  rw [cons_eq] at hx
  rcases List.mem_append.mp hx with hx | hx
  · unfold frame at hx
    rcases List.mem_cons.mp hx with rfl | hx
    · exact key (Ni.zero D 0) hL (by omega)
    · split at hx
      · rename_i h0
        rw [List.mem_singleton.mp hx]
        exact key (hh h0) (hS _) (by omega)
      · cases hx
  · unfold knC at hx
    obtain ⟨p, hp, rfl⟩ := List.mem_map.mp hx
    have hp := (List.mem_filter.mp hp).1
    exact key (hv p hp) ((hS.dist hk (kn.2 p hp)).mono (show n * 1 ≤ 24 by omega)) (by omega)
theorem hi_sub {D c : Nat} {L M : List Con} (h : ∀ x ∈ L, NiB D c (addB (some x.1) x.2) ∧ NiB D c (addB (some x.1) (negB x.2))) (hs : ∀ x ∈ M, x ∈ L) : NiB D c (hiC M) ∧ NiB D c (loC M) :=
  ⟨hi_ni fun x hx => (h x (hs x hx)).1, lo_ni fun x hx => (h x (hs x hx)).2⟩
theorem knC_sub {k j : Nat} : ∀ x ∈ knC st (ks.take j) k, x ∈ knC st ks k := fun x hx => by
  unfold knC at hx ⊢
  obtain ⟨p, hp, e⟩ := List.mem_map.mp hx
  obtain ⟨h1, h2⟩ := List.mem_filter.mp hp
  exact List.mem_map.mpr ⟨p, List.mem_filter.mpr ⟨List.mem_of_mem_take h1, h2⟩, e⟩
end
end K20
namespace K20
open PySem L2
open Evl (Ex)
open PyProof.Rows (envOfC)
/-! F9: what is drawn. -/
theorem tab_ext (i : Nat) (f : Nat → Option Rat) (v : Option Rat) : tab i f ++ [bd v] = tab (i + 1) fun k => if k = i then v else f k := by
  rw [tab_succ, if_pos rfl]
  congr 1
  exact tab_congr fun k hk => by rw [if_neg (by omega)]
def p_law_hum (ds : List Dt) (Q : Dt → Prop) : Prop := ∃ n : Nat, ds = [.int n] ∧ n ≤ 24 ∧ ∀ h, HumNi n h 2 1 → Q (hm n h)
theorem len_law_hum {ds : List Dt} {Q : Dt → Prop} (h : p_law_hum ds Q) : ds.length + 1 = 2 := by
  obtain ⟨_, rfl, _⟩ := h; rfl
def p_law_many (ds : List Dt) (Q : Dt → Prop) : Prop := ds = [] ∧ ∀ n : Nat, 1 ≤ n → n ≤ 24 → Q (.int n)
theorem len_law_many {ds : List Dt} {Q : Dt → Prop} (h : p_law_many ds Q) : ds.length + 1 = 1 := by
  obtain ⟨rfl, _⟩ := h; rfl
def p_law_bound (ds : List Dt) (Q : Dt → Prop) : Prop := ∃ z : Int, ds = [.int z] ∧ ∀ (o : Option Rat) (d : Nat), 0 < d → d ≤ 10000 → NiB d 1 o → NN o → Q (bd o)
theorem len_law_bound {ds : List Dt} {Q : Dt → Prop} (h : p_law_bound ds Q) : ds.length + 1 = 2 := by
  obtain ⟨_, rfl, _⟩ := h; rfl
def p_law_bounds (ds : List Dt) (Q : Dt → Prop) : Prop := ∃ n : Nat, ds = [.int n] ∧ 1 ≤ n ∧ n ≤ 24 ∧ ∀ m st D, LimOk n m st D → D < 2 ^ 672 → Q (lim n m st)
theorem len_law_bounds {ds : List Dt} {Q : Dt → Prop} (h : p_law_bounds ds Q) : ds.length + 1 = 2 := by
  obtain ⟨_, rfl, _⟩ := h; rfl
def p_law_share (ds : List Dt) (Q : Dt → Prop) : Prop := ∃ (lo hi : Option Rat) (D c : Nat), ds = [bd lo, bd hi] ∧ Gr (D * 6) ∧ 1 ≤ c ∧ c ≤ 1000 ∧ (lo = none ↔ hi = none) ∧ NiB D c lo ∧ NiB D c hi ∧ (∀ a b, lo = some a → hi = some b → a ≤ b) ∧
  ∀ x, Ni (D * 6) c x → (∀ a, lo = some a → a ≤ x) → (∀ b, hi = some b → x ≤ b) → Q (rat x)
theorem len_law_share {ds : List Dt} {Q : Dt → Prop} (h : p_law_share ds Q) : ds.length + 1 = 3 := by
  obtain ⟨_, _, _, _, rfl, _⟩ := h; rfl
def p_law_hum_within (ds : List Dt) (Q : Dt → Prop) : Prop := ∃ (n : Nat) (m st : Nat → Option Rat) (D : Nat), ds = [lim n m st] ∧ LimOk n m st D ∧ Gr (D * 6 ^ 24) ∧ ∀ h, RowOk n m st [] h n → HumNi n h (D * 6 ^ 24) 50 → Q (hm n h)
theorem len_law_hum_within {ds : List Dt} {Q : Dt → Prop} (h : p_law_hum_within ds Q) : ds.length + 1 = 2 := by
  obtain ⟨_, _, _, _, rfl, _⟩ := h; rfl
def p_law_keeping (ds : List Dt) (Q : Dt → Prop) : Prop := ∃ (n : Nat) (m st : Nat → Option Rat) (ks : List (Nat × Rat)) (D c : Nat), ds = [lim n m st, kn ks] ∧ LimOk n m st D ∧ Gr (D * 6 ^ 24) ∧ KnOk n ks D c ∧ c ≤ 500 ∧ NoClash n m st ks ∧ ∀ h, RowOk n m st ks h n → HumNi n h (D * 6 ^ 24) (c + 50) → Q (hm n h)
theorem len_law_keeping {ds : List Dt} {Q : Dt → Prop} (h : p_law_keeping ds Q) : ds.length + 1 = 3 := by
  obtain ⟨_, _, _, _, _, _, rfl, _⟩ := h; rfl
def p_law_known_of (ds : List Dt) (Q : Dt → Prop) : Prop := ∃ (n : Nat) (h : Nat → Rat), ds = [hm n h] ∧ n ≤ 24 ∧ ∀ ks, KnSt n ks → (∀ p ∈ ks, p.2 = h p.1) → ks.length ≤ n → Q (kn ks)
theorem len_law_known_of {ds : List Dt} {Q : Dt → Prop} (h : p_law_known_of ds Q) : ds.length + 1 = 2 := by
  obtain ⟨_, _, rfl, _⟩ := h; rfl
def p_law_known (ds : List Dt) (Q : Dt → Prop) : Prop := ∃ (n : Nat) (m st : Nat → Option Rat) (D : Nat), ds = [lim n m st] ∧ LimOk n m st D ∧ Gr (D * 6 ^ 24 * 2) ∧ ∀ ks, KnOk n ks (D * 6 ^ 24 * 2) 60 → Q (kn ks)
theorem len_law_known {ds : List Dt} {Q : Dt → Prop} (h : p_law_known ds Q) : ds.length + 1 = 2 := by
  obtain ⟨_, _, _, _, rfl, _⟩ := h; rfl
abbrev p_law_drawn := p_law_known
theorem len_law_drawn {ds : List Dt} {Q : Dt → Prop} (h : p_law_drawn ds Q) : ds.length + 1 = 2 := len_law_known h
theorem deq_int0 (i : Int) {P Q : Prop} : (if deq (.int i) (.int 0) = true then P else Q) = (if (i == 0) = true then P else Q) := by rw [deq_int]
theorem hm_tab {n : Nat} {f : Nat → Option Rat} {h : Nat → Rat} (e : ∀ k, k < n → f k = some (h k)) : tab n f = tab n fun k => some (h k) := tab_congr e
/-- a ratio drawn of small parts -/
theorem mk_toNat (i : Int) {j : Int} {n : Nat} (h : j = (n : Int)) : mkRat i j.toNat = mkRat i n := by rw [h]; rfl
theorem dv2 {d : Nat} (h : d = 1 ∨ d = 2) : d ∣ 2 := by rcases h with rfl | rfl <;> decide
theorem gr_small {D : Nat} (h0 : 0 < D) (h : D < 2 ^ 900) : Gr D := ⟨h0, h⟩
theorem sm8 {j : Int} (h : j.natAbs < 2 ^ 70) : j.natAbs < 2 ^ 8000 := Nat.lt_of_lt_of_le h (Nat.pow_le_pow_right (by decide) (by decide))
theorem row_zero {n : Nat} {m st : Nat → Option Rat} {ks : List (Nat × Rat)} {h : Nat → Rat} : RowOk n m st ks h 0 := ⟨fun i hi => absurd hi (Nat.not_lt_zero i), fun i hi => absurd hi (Nat.not_lt_zero _)⟩
theorem ext_some (i : Nat) (h : Nat → Rat) (x : Rat) : (tab i fun k => some (h k)) ++ [rat x] = tab (i + 1) fun k => some (if k = i then x else h k) := by
  rw [show rat x = bd (some x) from rfl, tab_ext]
  exact tab_congr fun k _ => by split <;> rfl
theorem nn_mk {i : Int} {d : Nat} (hi : 0 ≤ i) (hd : 0 < d) : NN (some (mkRat i d)) := by
  show (0 : Rat) ≤ mkRat i d
  have hm := mk_mul i hd
  have hr : (0 : Rat) < (d : Rat) := Rat.natCast_pos.mpr hd
  have h0 : (0 : Rat) ≤ ((i : Int) : Rat) := Rat.intCast_le_intCast.mpr hi
  apply Rat.not_lt.mp
  intro z
  have := Rat.mul_lt_mul_of_pos_right z hr
  grind
theorem rat_int (i : Int) : rat (mkRat i 1) = .tup [.int i, .int 1] := by
  have : mkRat i 1 = (i : Rat) := by rw [Rat.mkRat_one];
  rw [this]
  rfl
theorem rat_12 : rat (mkRat 1 2) = .tup [.int 1, .int 2] := by
  have h1 : (mkRat 1 2).num = 1 := by decide +kernel
  have h2 : (mkRat 1 2).den = 2 := by decide +kernel
  unfold rat
  rw [h1, h2]
  rfl
theorem rat_13 : rat (mkRat 1 3) = .tup [.int 1, .int 3] := by
  have h1 : (mkRat 1 3).num = 1 := by decide +kernel
  have h2 : (mkRat 1 3).den = 3 := by decide +kernel
  unfold rat
  rw [h1, h2]
  rfl
theorem gr_pow {D k n : Nat} (g : Gr (D * 6 ^ n)) (h : k ≤ n) : Gr (D * 6 ^ k) := by
  have h0 : 0 < D := Nat.pos_of_mul_pos_right g.pos
  exact ⟨Nat.mul_pos h0 (Nat.pow_pos (by decide)), Nat.lt_of_le_of_lt (Nat.mul_le_mul_left D (Nat.pow_le_pow_right (by decide) h)) g.lt⟩
theorem LimOk.up {n : Nat} {m st : Nat → Option Rat} {D E : Nat} (l : LimOk n m st D) (h : D ∣ E) (g : Gr E) : LimOk n m st E := ⟨l.n1, l.n2, g, fun k => (l.nm k).lift h, fun k => (l.ns k).lift h, l.pm, l.ps⟩
theorem six_at (x0 x1 x2 x3 x4 x5 : Int) {s : Int} (h0 : 0 ≤ s) (h1 : s < 6) : ∃ a : Int, atI [Dt.int x0, .int x1, .int x2, .int x3, .int x4, .int x5] s = some (.int a) := by
  obtain rfl | rfl | rfl | rfl | rfl | rfl : s = 0 ∨ s = 1 ∨ s = 2 ∨ s = 3 ∨ s = 4 ∨ s = 5 := by omega
  · exact ⟨_, rfl⟩
  · exact ⟨_, rfl⟩
  · exact ⟨_, rfl⟩
  · exact ⟨_, rfl⟩
  · exact ⟨_, rfl⟩
  · exact ⟨_, rfl⟩
theorem share_at {s : Int} (h0 : 0 ≤ s) (h1 : s < 5) : ∃ f, Fr f ∧ atI [Dt.tup [.int 0, .int 1], .tup [.int 1, .int 1], .tup [.int 1, .int 2], .tup [.int 1, .int 3], .tup [.int 1, .int 1]] s = some (rat f) := by
  obtain rfl | rfl | rfl | rfl | rfl : s = 0 ∨ s = 1 ∨ s = 2 ∨ s = 3 ∨ s = 4 := by omega
  · exact ⟨_, fr0, rfl⟩
  · exact ⟨_, fr1, rfl⟩
  · exact ⟨_, fr2, by rw [rat_12]; rfl⟩
  · exact ⟨_, fr3, by rw [rat_13]; rfl⟩
  · exact ⟨_, fr1, rfl⟩
theorem Fr.ni {f : Rat} (h : Fr f) : Ni 6 1 f := by
  have h1 := h.lo
  have h2 := h.hi
  obtain ⟨a, e⟩ := h.at_
  have b : (1 : Rat) ≤ BIG := by unfold BIG; decide
  exact ⟨⟨a, by rw [six]; exact e⟩, by rw [one_cB]; grind, by rw [one_cB]; grind⟩
/-- a row of bounds drawn as far as i -/
structure BdR (i : Nat) (f : Nat → Option Rat) (D : Nat) : Prop where
  pos : 0 < D
  le : D ≤ 2 ^ (14 * i)
  ni : NiF D 1 f
  nn : NNs f
theorem bdr_zero : BdR 0 (fun _ => none) 1 := ⟨by decide, by decide, fun _ => NiB.none _ _, fun _ => trivial⟩
theorem BdR.next {i : Nat} {f : Nat → Option Rat} {D : Nat} {o : Option Rat} {d : Nat} (h : BdR i f D) (h1 : 0 < d) (h2 : d ≤ 10000) (h3 : NiB d 1 o) (h4 : NN o) : BdR (i + 1) (fun k => if k = i then o else f k) (D * d) := by
  refine ⟨Nat.mul_pos h.pos h1, ?_, fun k => ?_, fun k => ?_⟩
  · rw [Nat.mul_add, Nat.pow_add]
    exact Nat.mul_le_mul h.le (Nat.le_trans h2 (by decide))
  · show NiB _ _ (if k = i then _ else _)
    split
    · exact h3.lift ⟨D, Nat.mul_comm D d⟩
    · exact (h.ni k).lift ⟨d, rfl⟩
  · show NN (if k = i then _ else _)
    split
    · exact h4
    · exact h.nn k
/-- a row drawn as far as k -/
structure Row (n : Nat) (m st : Nat → Option Rat) (ks : List (Nat × Rat)) (D c : Nat) (h : Nat → Rat) (k : Nat) : Prop where
  ok : RowOk n m st ks h k
  ni : ∀ i, i < k → Ni (D * 6 ^ k) (c + 26 + i) (h i)
section
variable {n : Nat} {m st : Nat → Option Rat} {ks : List (Nat × Rat)} {D c : Nat} {h : Nat → Rat} {k : Nat}
theorem Row.cons (r : Row n m st ks D c h k) (l : LimOk n m st (D * 6 ^ k)) (kk : KnSt n ks) (kv : ∀ p ∈ ks, Ni (D * 6 ^ k) c p.2) (hk : k < n) :
    ∀ x ∈ consOf n m st ks h k, NiB (D * 6 ^ k) (c + 26 + k) (addB (some x.1) x.2) ∧ NiB (D * 6 ^ k) (c + 26 + k) (addB (some x.1) (negB x.2)) :=
  cons_ni (l.led hk) l.ns l.n2 (fun h0 => (r.ni (k - 1) (by omega)).mono (by omega)) hk kk kv
theorem Row.next {x : Rat} (r : Row n m st ks D c h k) (hx : Ni (D * 6 ^ k * 6) (c + 26 + k) x) (h1 : ∀ a, loC (consOf n m st ks h k) = some a → a ≤ x) (h2 : ∀ b, hiC (consOf n m st ks h k) = some b → x ≤ b) :
    Row n m st ks D c (fun i => if i = k then x else h i) (k + 1) := by
  have e : D * 6 ^ k * 6 = D * 6 ^ (k + 1) := by rw [Nat.pow_succ, Nat.mul_assoc]
  refine ⟨row_next r.ok h1 h2, fun i hi => ?_⟩
  by_cases z : i = k
  · subst z
    rw [if_pos rfl, ← e]
    exact hx
  · rw [if_neg z]
    exact (r.ni i (by omega)).lift (pow6 D (by omega))
end
local macro_rules | `(tactic| walk_at "d1") => `(tactic| first
  | with_reducible refine ds_seq ?_
  | with_reducible refine dsr_seq ?_
  | with_reducible refine ds_ret ?_
  | with_reducible refine ds_retN ?_
  | with_reducible refine ds_next ?_
  | with_reducible refine ds_own rfl (dl_list ?_)
  | with_reducible refine ds_own rfl (dl_lst ?_)
  | with_reducible refine ds_app rfl ?_ ?_
  | with_reducible refine ds_put rfl ?_
  | with_reducible refine ds_set rfl ?_
  | with_reducible refine ds_asg ?_
  | with_reducible refine ds_if ?_
  | with_reducible refine ds_par rfl rfl ?_
  | with_reducible refine de_var rfl ?_
  | with_reducible refine de_int ?_
  | with_reducible refine de_bl ?_
  | with_reducible refine de_non ?_
  | with_reducible refine de_str ?_
  | with_reducible refine de_add ?_
  | with_reducible refine de_mul ?_
  | with_reducible refine de_ix_own rfl ?_
  | with_reducible refine de_ix ?_
  | with_reducible refine de_call ?_
  | with_reducible refine de_callH rfl ?_
  | with_reducible refine de_callD (dds := [.non, .non]) (fun _ => .cons .non (.cons .non .nil)) ?_
  | with_reducible refine de_callD (dds := [.non]) (fun _ => .cons .non .nil) ?_
  | with_reducible refine de_chainI ?_
  | with_reducible refine de_opI0 ?_
  | with_reducible refine de_opI ?_
  | with_reducible refine de_opB0 ?_
  | with_reducible refine de_isN ?_
  | with_reducible refine de_notN ?_
  | with_reducible refine de_eqD ?_
  | with_reducible refine de_ne_own rfl ?_
  | with_reducible refine de_neD ?_
  | with_reducible refine de_neg ?_
  | with_reducible refine de_len_own rfl ?_
  | with_reducible refine de_len ?_
  | with_reducible refine de_int1 ?_
  | with_reducible refine de_abs ?_
  | with_reducible refine de_min2 ?_
  | with_reducible refine de_max2 ?_
  | with_reducible refine de_tuple_own rfl ?_
  | with_reducible refine de_tup ?_
  | with_reducible refine de_if ?_
  | with_reducible refine de_isBl ?_
  | with_reducible refine de_isIn ?_
  | with_reducible refine de_isTu ?_
  | with_reducible refine de_isLT ?_
  | with_reducible refine de_andV ?_
  | with_reducible refine de_orV ?_
  | with_reducible refine de_notT ?_
  | with_reducible refine de_fld ?_
  | with_reducible refine de_slice ?_
  | with_reducible refine do_none ?_
  | with_reducible refine do_some ?_
  | with_reducible refine dt_test ?_
  | with_reducible refine dt_tru ?_
  | with_reducible refine dt_and ?_
  | with_reducible refine dt_or ?_
  | with_reducible refine dt_not ?_
  | with_reducible refine da_cons ?_
  | with_reducible refine da_nil ?_
  | with_reducible refine de_lst ?_
  | with_reducible refine de_of_dl (dl_list ?_)
  | with_reducible refine de_mkLimits ?_
  | with_reducible refine de_mkClash ?_
  | with_reducible refine de_lenLim ?_)
local macro_rules | `(tactic| walk_at "d2") => `(tactic| first
  | walk_at "d1"
  | with_reducible refine iteT ?_
  | with_reducible refine iteF ?_
  | with_reducible refine ite_f Bool.not_true ?_
  | with_reducible refine ite_t Bool.not_false ?_
  | (with_reducible refine Exists.intro _ (Exists.intro _ (And.intro rfl (And.intro rfl ?_))))
  | (with_reducible refine Exists.intro _ (And.intro rfl ?_))
  | (with_reducible refine .inl (Exists.intro _ (Exists.intro _ (And.intro rfl (And.intro rfl ?_)))))
  | (refine ⟨_, _, _, .inr rfl, rfl, rfl, ?_⟩)
  | (refine ⟨Nat.le_of_ble_eq_true rfl, ?_⟩)
  | (with_reducible refine And.intro rfl ?_)
  | (with_reducible refine And.intro (by walk_at "mul") ?_)
  | (with_reducible refine And.intro (by walk_at "shd") ?_))
local macro_rules | `(tactic| walk_at "dd") => `(tactic| (repeat walk_at "d2"))
local macro_rules | `(tactic| walk_at "set") => `(tactic| simp only [List.set_cons_zero, List.set_cons_succ])
local macro_rules | `(tactic| walk_at "mul") => `(tactic| first
  | exact mul_nd (by assumption) (by assumption) | exact mul_nn (by assumption) (by assumption) | exact mul_dd (by assumption) (by assumption))
local macro_rules | `(tactic| walk_at "shd") => `(tactic| first
  | exact shD_int _ | exact shD_non | exact shD_rat _ | exact shD_tupTab _ _ | with_reducible assumption)
local macro_rules | `(tactic| walk_at "tg") => `(tactic| refine dg_tup ⟨_, rfl, rfl, dgs_cons (dg_name0 rfl (dgs_cons (dg_name0 rfl (dgs_nil ?_))))⟩)
local macro_rules | `(tactic| walk_at "wp") => `(tactic| simp only [wipeD, List.map_cons, List.map_nil, List.set_cons_zero, List.set_cons_succ])
section
variable {P : Program} {w : World} {K : PySem.W.Frag} {mg : Str → Option Value} {base : Heap} {CL CC CB : Addr}
theorem ok_law_hum (T : Txt K mg CL CC CB) (D : Def K mg "_law_hum" s_law_hum) (C_law_take : Cal P w K mg base "_law_take" 2 ["_law_hand_here", "_law_many_here"] (spH K p_law_take)) (C_law_ratio : Cal P w K mg base "_law_ratio" 2 ["_law_top", "_law_bottom"] (spD K p_law_ratio))  :
    Cal P w K mg base "_law_hum" 3 ["_law_hand_here", "_law_count"] (spH K p_law_hum) := by
  obtain ⟨f, fd, F, hg⟩ := D
  refine ⟨f, fd, ok_H (k := 2) F sc_law_hum (fun ds Q h => len_law_hum h) (fun cdv A outer s H E hr => ⟨_, (pss_cons (ps_set (i := 2) sc_law_hum.nd rfl (Or.inr rfl) (pe_op op_addA pe_int (pe_cal C_law_take hr (by decide) rfl (pa_cons (pv 0) (pa_cons pe_int pa_nil)))))
    (pss_one (ps_ret (pe_tuple T.bi (pe_lc (own := [("_law_k", 3)]) (g := gName 3) rfl sc_law_hum.nd (pi_range1 rfl T.bi.range (pa_cons (pv 1) pa_nil)) (blkOk_by (own := [("_law_k", 3)]) (N := ["_law_hand_here", "_law_count", "_law_share_here", "_law_k"]) (sc := defScope s_law_hum) (by decide +kernel)) (fun _ _ _ _ _ => (pg_name (i := 3) sc_law_hum.nd rfl (Or.inl rfl))) (fun _ _ _ _ _ => pts_nil) (fun _ _ _ _ _ => (pe_cal C_law_ratio hr (by decide) rfl (pa_cons (pe_op op_sub (pe_cal C_law_take hr (by decide) rfl (pa_cons (pv 0) (pa_cons pe_int pa_nil))) pe_int) (pa_cons (pv 2) pa_nil))))))))), fun G0 H0 l ds Q h => ?_⟩), hg, F.kp, F.binds fun _ _ _ _ _ _ us hl => match us, hl with | [_, _], _ => rfl⟩
  try dsimp only [cxOf, Cx.nox, Cx.wish]
  obtain ⟨n, rfl, hn, k⟩ := h
  change DS _ _ [.hand, _, .no, .no] _
  walk_at "dd"
  refine ⟨2, rfl, by decide, by decide, fun s hs0 hs1 => ?_⟩
  walk_at "dd"
  walk_at "set"
  refine de_tuple_dl ?_
  refine dl_lcR1 hw_name (fun i acc => ∃ h : Nat → Rat, HumNi i h 2 1 ∧ acc = tab i fun k => some (h k)) ?_
  walk_at "dd"
  refine ⟨bR_small (by omega) (by omega), ⟨fun _ => 0, fun k hk => absurd hk (Nat.not_lt_zero k), rfl⟩, ?_, ?_⟩
  · rintro i acc hi ⟨h, hh, rfl⟩
    refine dlt_yes ?_
    refine dg_name0 rfl ?_
    walk_at "wp"
    walk_at "dd"
    refine ⟨7, rfl, by decide, by decide, fun r hr0 hr1 => ?_⟩
    walk_at "dd"
    refine ⟨_, _, rfl, by omega, sm8 (by omega), ?_⟩
    refine ⟨by rw [tab_len]; omega, fun k => if k = i then mkRat (r - 3) (1 + s).toNat else h k, fun k hk => ?_, ext_some _ _ _⟩
    show Ni 2 1 (if k = i then _ else _)
    by_cases e : k = i
    · rw [if_pos e]
      exact Ni.of_mk (by omega) (dv2 (by omega)) (by omega)
    · rw [if_neg e]
      exact hh k (by omega)
  · rintro acc ⟨h, hh, rfl⟩
    exact k h hh
theorem ok_law_many (T : Txt K mg CL CC CB) (D : Def K mg "_law_many" s_law_many) (C_law_take : Cal P w K mg base "_law_take" 2 ["_law_hand_here", "_law_many_here"] (spH K p_law_take))  :
    Cal P w K mg base "_law_many" 3 ["_law_hand_here"] (spH K p_law_many) := by
  obtain ⟨f, fd, F, hg⟩ := D
  refine ⟨f, fd, ok_H (k := 2) F sc_law_many (fun ds Q h => len_law_many h) (fun cdv A outer s H E hr => ⟨_, (pss_cons (ps_if (pt_cmpR (op_eqD hr.units) (pe_cal C_law_take hr (by decide) rfl (pa_cons (pv 0) (pa_cons pe_int pa_nil))) pe_int (nomark _)) (pss_one (ps_ret (pe_op op_addA pe_int (pe_cal C_law_take hr (by decide) rfl (pa_cons (pv 0) (pa_cons pe_int pa_nil)))))) pss_nil)
    (pss_one (ps_ret (pe_op op_addA pe_int (pe_cal C_law_take hr (by decide) rfl (pa_cons (pv 0) (pa_cons pe_int pa_nil))))))), fun G0 H0 l ds Q h => ?_⟩), hg, F.kp, F.binds fun _ _ _ _ _ _ us hl => match us, hl with | [_], _ => rfl⟩
  try dsimp only [cxOf, Cx.nox, Cx.wish]
  obtain ⟨rfl, k⟩ := h
  change DS _ _ [.hand] _
  walk_at "dd"
  refine ⟨8, rfl, by decide, by decide, fun s hs0 hs1 => ?_⟩
  walk_at "dd"
  rw [deq_int]
  by_cases e : s = 0
  · refine ite_t (by rw [e]; rfl) ?_
    walk_at "dd"
    refine ⟨16, rfl, by decide, by decide, fun r hr0 hr1 => ?_⟩
    walk_at "dd"
    have := k (9 + r).toNat (by omega) (by omega)
    rwa [show (((9 + r).toNat : Nat) : Int) = 9 + r by omega] at this
  · refine ite_f (by simpa using e) ?_
    walk_at "dd"
    refine ⟨8, rfl, by decide, by decide, fun r hr0 hr1 => ?_⟩
    walk_at "dd"
    have := k (1 + r).toNat (by omega) (by omega)
    rwa [show (((1 + r).toNat : Nat) : Int) = 1 + r by omega] at this
theorem ok_law_bound (T : Txt K mg CL CC CB) (D : Def K mg "_law_bound" s_law_bound) (C_law_take : Cal P w K mg base "_law_take" 2 ["_law_hand_here", "_law_many_here"] (spH K p_law_take)) (C_law_ratio : Cal P w K mg base "_law_ratio" 2 ["_law_top", "_law_bottom"] (spD K p_law_ratio))  :
    Cal P w K mg base "_law_bound" 3 ["_law_hand_here", "_law_none"] (spH K p_law_bound) := by
  obtain ⟨f, fd, F, hg⟩ := D
  refine ⟨f, fd, ok_H (k := 2) F sc_law_bound (fun ds Q h => len_law_bound h) (fun cdv A outer s H E hr => ⟨_, (pss_cons (ps_set (i := 2) sc_law_bound.nd rfl (Or.inl rfl) (pe_cal C_law_take hr (by decide) rfl (pa_cons (pv 0) (pa_cons pe_int pa_nil))))
    (pss_cons (ps_if (pt_cmpR op_lt (pv 2) (pv 1) (nomark _)) (pss_one (ps_ret pe_non)) pss_nil)
    (pss_cons (ps_set (i := 2) sc_law_bound.nd rfl (Or.inl rfl) (pe_cal C_law_take hr (by decide) rfl (pa_cons (pv 0) (pa_cons pe_int pa_nil))))
    (pss_cons (ps_if (pt_cmpR (op_eqD hr.units) (pv 2) pe_int (nomark _)) (pss_one (ps_ret (pe_cal C_law_ratio hr (by decide) rfl (pa_cons (pe_cal C_law_take hr (by decide) rfl (pa_cons (pv 0) (pa_cons (pe_op op_pow pe_int pe_int) pa_nil))) (pa_cons (pe_op op_addA pe_int (pe_cal C_law_take hr (by decide) rfl (pa_cons (pv 0) (pa_cons (pe_op op_pow pe_int pe_int) pa_nil)))) pa_nil))))) pss_nil)
    (pss_cons (ps_if (pt_cmpR (op_eqD hr.units) (pv 2) pe_int (nomark _)) (pss_one (ps_ret (pe_tup (pa_cons (pe_op op_addA (pe_op op_pow pe_int pe_int) (pe_cal C_law_take hr (by decide) rfl (pa_cons (pv 0) (pa_cons (pe_op op_pow pe_int pe_int) pa_nil)))) (pa_cons pe_int pa_nil))))) pss_nil)
    (pss_one (ps_ret (pe_cal C_law_ratio hr (by decide) rfl (pa_cons (pe_cal C_law_take hr (by decide) rfl (pa_cons (pv 0) (pa_cons pe_int pa_nil))) (pa_cons (pe_op op_addA pe_int (pe_cal C_law_take hr (by decide) rfl (pa_cons (pv 0) (pa_cons pe_int pa_nil)))) pa_nil)))))))))), fun G0 H0 l ds Q h => ?_⟩), hg, F.kp, F.binds fun _ _ _ _ _ _ us hl => match us, hl with | [_, _], _ => rfl⟩
  try dsimp only [cxOf, Cx.nox, Cx.wish]
  obtain ⟨z, rfl, k⟩ := h
  change DS _ _ [.hand, _, .no] _
  have frac : ∀ {i j : Int}, 0 ≤ i → i ≤ 2147483648 → 1 ≤ j → j ≤ 10000 → Q (rat (mkRat i j.toNat)) := fun {i j} h1 h2 h3 h4 =>
    k (some (mkRat i j.toNat)) j.toNat (by omega) (by omega) (NiB.some (Ni.of_mk (by omega) (Nat.dvd_refl _) (by omega))) (nn_mk h1 (by omega))
  walk_at "dd"
  refine ⟨8, rfl, by decide, by decide, fun s hs0 hs1 => ?_⟩
  walk_at "set"
  walk_at "dd"
  by_cases e : s < z
  · refine ite_t (decide_eq_true e) ?_
    walk_at "dd"
    exact k none 1 (by decide) (by decide) (NiB.none _ _) trivial
  · refine ite_f (decide_eq_false e) ?_
    walk_at "dd"
    refine ⟨16, rfl, by decide, by decide, fun t ht0 ht1 => ?_⟩
    walk_at "set"
    walk_at "dd"
    rw [deq_int]
    by_cases e : t = 0
    · refine ite_t (by rw [e]; rfl) ?_
      walk_at "dd"
      refine ⟨⟨by decide, by decide, by decide⟩, ?_⟩
      walk_at "dd"
      refine ⟨_, rfl, by decide, by decide, fun r hr0 hr1 => ?_⟩
      have hr1 : r < 100000000 := hr1
      walk_at "dd"
      refine ⟨⟨by decide, by decide, by decide⟩, ?_⟩
      walk_at "dd"
      refine ⟨_, rfl, by decide, by decide, fun r2 hq0 hq1 => ?_⟩
      have hq1 : r2 < 10000 := hq1
      walk_at "dd"
      exact ⟨_, _, rfl, by omega, sm8 (by omega), frac hr0 (by omega) (by omega) (by omega)⟩
    · refine ite_f (by simpa using e) ?_
      walk_at "dd"
      rw [deq_int]
      by_cases e : t = 1
      · refine ite_t (by rw [e]; rfl) ?_
        walk_at "dd"
        refine ⟨⟨by decide, by decide, by decide⟩, ?_⟩
        walk_at "dd"
        refine ⟨⟨by decide, by decide, by decide⟩, ?_⟩
        walk_at "dd"
        refine ⟨_, rfl, by decide, by decide, fun r hr0 hr1 => ?_⟩
        have hr1 : r < 1000000000 := hr1
        walk_at "dd"
        have := frac (i := 1000000000 + r) (j := 1) (by omega) (by omega) (by decide) (by decide)
        rw [show ((1 : Int).toNat) = 1 from rfl, rat_int] at this
        exact this
      · refine ite_f (by simpa using e) ?_
        walk_at "dd"
        refine ⟨7, rfl, by decide, by decide, fun r hr0 hr1 => ?_⟩
        walk_at "dd"
        refine ⟨2, rfl, by decide, by decide, fun r2 hq0 hq1 => ?_⟩
        walk_at "dd"
        exact ⟨_, _, rfl, by omega, sm8 (by omega), frac hr0 (by omega) (by omega) (by omega)⟩
theorem ok_law_bounds (T : Txt K mg CL CC CB) (D : Def K mg "_law_bounds" s_law_bounds) (C_law_take : Cal P w K mg base "_law_take" 2 ["_law_hand_here", "_law_many_here"] (spH K p_law_take)) (C_law_bound : Cal P w K mg base "_law_bound" 3 ["_law_hand_here", "_law_none"] (spH K p_law_bound))  :
    Cal P w K mg base "_law_bounds" 4 ["_law_hand_here", "_law_count"] (spH K p_law_bounds) := by
  obtain ⟨f, fd, F, hg⟩ := D
  refine ⟨f, fd, ok_H (k := 3) F sc_law_bounds (fun ds Q h => len_law_bounds h) (fun cdv A outer s H E hr => ⟨_, (pss_cons (ps_set (i := 2) sc_law_bounds.nd rfl (Or.inl rfl) (pe_cal C_law_take hr (by decide) rfl (pa_cons (pv 0) (pa_cons pe_int pa_nil))))
    (pss_cons (ps_set (i := 3) sc_law_bounds.nd rfl (Or.inr rfl) (pe_ix ix_seq (pe_lst (pa_cons pe_int (pa_cons pe_int (pa_cons pe_int (pa_cons pe_int (pa_cons pe_int (pa_cons pe_int pa_nil))))))) (pv 2) (fun _ _ => rfl)))
    (pss_cons (ps_set (i := 4) sc_law_bounds.nd rfl (Or.inr rfl) (pe_ix ix_seq (pe_lst (pa_cons pe_int (pa_cons pe_int (pa_cons pe_int (pa_cons pe_int (pa_cons pe_int (pa_cons pe_int pa_nil))))))) (pv 2) (fun _ _ => rfl)))
    (pss_cons (ps_set (i := 5) sc_law_bounds.nd rfl (Or.inl rfl) (pe_tuple T.bi (pe_lc (own := [("_law_k", 6)]) (g := gName 6) rfl sc_law_bounds.nd (pi_range1 rfl T.bi.range (pa_cons (pv 1) pa_nil)) (blkOk_by (own := [("_law_k", 6)]) (N := ["_law_hand_here", "_law_count", "_law_turn", "_law_mosts", "_law_steps", "_law_row", "_law_k"]) (sc := defScope s_law_bounds) (by decide +kernel)) (fun _ _ _ _ _ => (pg_name (i := 6) sc_law_bounds.nd rfl (Or.inl rfl))) (fun _ _ _ _ _ => pts_nil) (fun _ _ _ _ _ => (pe_cal C_law_bound hr (by decide) rfl (pa_cons (pv 0) (pa_cons (pv 3) pa_nil)))))))
    (pss_one (ps_ret (pe_tup (pa_cons (pv 5) (pa_cons (pe_tuple T.bi (pe_lc (own := [("_law_k", 6)]) (g := gName 6) rfl sc_law_bounds.nd (pi_range2 rfl T.bi.range (pa_cons pe_int (pa_cons (pv 1) pa_nil))) (blkOk_by (own := [("_law_k", 6)]) (N := ["_law_hand_here", "_law_count", "_law_turn", "_law_mosts", "_law_steps", "_law_row", "_law_k"]) (sc := defScope s_law_bounds) (by decide +kernel)) (fun _ _ _ _ _ => (pg_name (i := 6) sc_law_bounds.nd rfl (Or.inl rfl))) (fun _ _ _ _ _ => pts_nil) (fun _ _ _ _ _ => (pe_cal C_law_bound hr (by decide) rfl (pa_cons (pv 0) (pa_cons (pv 4) pa_nil)))))) pa_nil))))))))), fun G0 H0 l ds Q h => ?_⟩), hg, F.kp, F.binds fun _ _ _ _ _ _ us hl => match us, hl with | [_, _], _ => rfl⟩
  try dsimp only [cxOf, Cx.nox, Cx.wish]
  obtain ⟨n, rfl, hn1, hn2, k⟩ := h
  change DS _ _ [.hand, _, .no, .no, .no, .no, .no] _
  walk_at "dd"
  refine ⟨6, rfl, by decide, by decide, fun s hs0 hs1 => ?_⟩
  walk_at "set"
  walk_at "dd"
  obtain ⟨a, ha⟩ := six_at 2 8 0 1 0 5 hs0 hs1
  refine ⟨_, _, _, .inl rfl, rfl, ha, ?_⟩
  walk_at "set"
  walk_at "dd"
  obtain ⟨b, hb⟩ := six_at 2 1 8 1 0 2 hs0 hs1
  refine ⟨_, _, _, .inl rfl, rfl, hb, ?_⟩
  walk_at "set"
  refine ds_seq (ds_set rfl (de_tuple_dl ?_))
  refine dl_lcR1 hw_name (fun i acc => ∃ (f : Nat → Option Rat) (D : Nat), BdR i f D ∧ acc = tab i f) ?_
  walk_at "dd"
  refine ⟨bR_small (by omega) (by omega), ⟨_, _, bdr_zero, rfl⟩, ?_, ?_⟩
  · rintro i acc hi ⟨f, D, hf, rfl⟩
    refine dlt_yes ?_
    refine dg_name0 rfl ?_
    walk_at "wp"
    walk_at "dd"
    refine ⟨_, rfl, fun o d h1 h2 h3 h4 => ?_⟩
    exact ⟨by rw [tab_len]; omega, _, _, hf.next h1 h2 h3 h4, tab_ext _ _ _⟩
  · rintro acc ⟨m, D, hm, rfl⟩
    rw [show ((n : Int)).toNat = n from rfl] at *
    walk_at "set"
    walk_at "dd"
    refine de_tuple_dl ?_
    refine dl_lcR2 hw_name (fun i acc => ∃ (f : Nat → Option Rat) (D : Nat), BdR i f D ∧ acc = tab i f) ?_
    walk_at "dd"
    refine ⟨_, _, rfl, bR_small (by omega) (by omega), bR_small (by omega) (by omega), ⟨_, _, bdr_zero, rfl⟩, ?_, ?_⟩
    · rintro i acc hi ⟨f, D, hf, rfl⟩
      refine dlt_yes ?_
      refine dg_name0 rfl ?_
      walk_at "wp"
      walk_at "dd"
      refine ⟨_, rfl, fun o d h1 h2 h3 h4 => ?_⟩
      exact ⟨by rw [tab_len]; omega, _, _, hf.next h1 h2 h3 h4, tab_ext _ _ _⟩
    · rintro acc ⟨st, E, hst, rfl⟩
      rw [show ((n : Int) - 1).toNat = n - 1 by omega] at *
      walk_at "dd"
      have hlt : D * E < 2 ^ 672 := by
        have h1 : D * E ≤ 2 ^ (14 * n) * 2 ^ (14 * (n - 1)) := Nat.mul_le_mul hm.le hst.le
        rw [← Nat.pow_add] at h1
        exact Nat.lt_of_le_of_lt h1 (Nat.pow_lt_pow_right (by decide) (by omega))
      exact k m st (D * E) ⟨hn1, hn2, ⟨Nat.mul_pos hm.pos hst.pos, Nat.lt_trans hlt (Nat.pow_lt_pow_right (by decide) (by decide))⟩, fun j => (hm.ni j).lift ⟨E, rfl⟩, fun j => (hst.ni j).lift ⟨D, Nat.mul_comm D E⟩, hm.nn, hst.nn⟩ hlt
theorem ok_law_share (T : Txt K mg CL CC CB) (D : Def K mg "_law_share" s_law_share) (C_law_plus : Cal P w K mg base "_law_plus" 3 ["_law_one", "_law_other"] (spD K p_law_plus)) (C_law_ratio : Cal P w K mg base "_law_ratio" 2 ["_law_top", "_law_bottom"] (spD K p_law_ratio)) (C_law_less : Cal P w K mg base "_law_less" 3 ["_law_one", "_law_other"] (spD K p_law_less)) (C_law_times : Cal P w K mg base "_law_times" 3 ["_law_one", "_law_other"] (spD K p_law_times)) (C_law_take : Cal P w K mg base "_law_take" 2 ["_law_hand_here", "_law_many_here"] (spH K p_law_take))  :
    Cal P w K mg base "_law_share" 4 ["_law_hand_here", "_law_low", "_law_high"] (spH K p_law_share) := by
  obtain ⟨f, fd, F, hg⟩ := D
  refine ⟨f, fd, ok_H (k := 3) F sc_law_share (fun ds Q h => len_law_share h) (fun cdv A outer s H E hr => ⟨_, (pss_cons (ps_if (PW.pt (pw_and (pt_cmpR op_isN (pv 1) pe_non (nomark _)) (pw_and1 (pt_cmpR op_isN (pv 2) pe_non (nomark _))))) (pss_one (ps_ret (pe_cal C_law_ratio hr (by decide) rfl (pa_cons (pe_op op_sub (pe_cal C_law_take hr (by decide) rfl (pa_cons (pv 0) (pa_cons pe_int pa_nil))) pe_int) (pa_cons (pe_op op_addA pe_int (pe_cal C_law_take hr (by decide) rfl (pa_cons (pv 0) (pa_cons pe_int pa_nil)))) pa_nil))))) pss_nil)
    (pss_cons (ps_if (pt_cmpR op_isN (pv 1) pe_non (nomark _)) (pss_one (ps_ret (pe_cal C_law_less hr (by decide) rfl (pa_cons (pv 2) (pa_cons (pe_tup (pa_cons (pe_cal C_law_take hr (by decide) rfl (pa_cons (pv 0) (pa_cons pe_int pa_nil))) (pa_cons pe_int pa_nil))) pa_nil))))) pss_nil)
    (pss_cons (ps_if (pt_cmpR op_isN (pv 2) pe_non (nomark _)) (pss_one (ps_ret (pe_cal C_law_plus hr (by decide) rfl (pa_cons (pv 1) (pa_cons (pe_tup (pa_cons (pe_cal C_law_take hr (by decide) rfl (pa_cons (pv 0) (pa_cons pe_int pa_nil))) (pa_cons pe_int pa_nil))) pa_nil))))) pss_nil)
    (pss_one (ps_ret (pe_cal C_law_plus hr (by decide) rfl (pa_cons (pv 1) (pa_cons (pe_cal C_law_times hr (by decide) rfl (pa_cons (pe_cal C_law_less hr (by decide) rfl (pa_cons (pv 2) (pa_cons (pv 1) pa_nil))) (pa_cons (pe_ix ix_seq (pe_lst (pa_cons (pe_tup (pa_cons pe_int (pa_cons pe_int pa_nil))) (pa_cons (pe_tup (pa_cons pe_int (pa_cons pe_int pa_nil))) (pa_cons (pe_tup (pa_cons pe_int (pa_cons pe_int pa_nil))) (pa_cons (pe_tup (pa_cons pe_int (pa_cons pe_int pa_nil))) (pa_cons (pe_tup (pa_cons pe_int (pa_cons pe_int pa_nil))) pa_nil)))))) (pe_cal C_law_take hr (by decide) rfl (pa_cons (pv 0) (pa_cons pe_int pa_nil))) (fun _ _ => rfl)) pa_nil))) pa_nil)))))))), fun G0 H0 l ds Q h => ?_⟩), hg, F.kp, F.binds fun _ _ _ _ _ _ us hl => match us, hl with | [_, _, _], _ => rfl⟩
  try dsimp only [cxOf, Cx.nox, Cx.wish]
  obtain ⟨lo, hi, D, c, rfl, gr, hc1, hc2, hlh, nl, nh, hle, k⟩ := h
  change DS _ _ [.hand, _, _] _
  have hD : 0 < D := Nat.pos_of_mul_pos_right gr.pos
  have grD : Gr D := ⟨hD, by have := gr.lt; omega⟩
  walk_at "dd"
  rw [isNon_bd]
  cases lo with
  | none =>
    obtain rfl := hlh.mp rfl
    refine ite_t rfl ?_
    walk_at "dd"
    refine ite_t rfl ?_
    walk_at "dd"
    refine ⟨9, rfl, by decide, by decide, fun r hr0 hr1 => ?_⟩
    walk_at "dd"
    refine ⟨2, rfl, by decide, by decide, fun s hs0 hs1 => ?_⟩
    walk_at "dd"
    refine ⟨_, _, rfl, by omega, sm8 (by omega), ?_⟩
    refine k _ ((Ni.of_mk (d := (1 + s).toNat) (by omega) ?_ (by omega)).mono hc1) (fun a z => by cases z) (fun a z => by cases z)
    exact Nat.dvd_trans (dv2 (by omega)) ⟨D * 3, by omega⟩
  | some a =>
    obtain ⟨b, rfl⟩ : ∃ b, hi = some b := by
      cases hi with
      | none => exact absurd (hlh.mpr rfl) (by simp)
      | some b => exact ⟨b, rfl⟩
    have na := nl a rfl
    have nb := nh b rfl
    have hab := hle a b rfl rfl
    refine ite_f rfl ?_
    refine ite_f rfl ?_
    walk_at "dd"
    refine ite_f rfl ?_
    walk_at "dd"
    refine ite_f rfl ?_
    walk_at "dd"
    refine ⟨b, a, rfl, nb.sm grD.pos grD.lt (by omega), na.sm grD.pos grD.lt (by omega), ?_⟩
    walk_at "dd"
    refine ⟨5, rfl, by decide, by decide, fun r hr0 hr1 => ?_⟩
    obtain ⟨f, hf, hat⟩ := share_at hr0 hr1
    refine ⟨_, _, _, .inl rfl, rfl, hat, ?_⟩
    walk_at "dd"
    have nba := (nb.sub na).lift (E := D * 6) ⟨6, rfl⟩
    have nf : Ni (D * 6) 1 f := hf.ni.lift ⟨D, Nat.mul_comm D 6⟩
    refine ⟨b - a, f, rfl, nba.sm gr.pos gr.lt (by omega), nf.sm gr.pos gr.lt (by omega), ?_⟩
    walk_at "dd"
    refine ⟨a, (b - a) * f, rfl, na.sm grD.pos grD.lt (by omega), ((nb.sub na).frac (by grind) hf).sm gr.pos gr.lt (by omega), ?_⟩
    have q := share_in hab hf
    exact k _ (share_ni na nb hab hf) (fun a' z => by cases z; exact q.1) (fun b' z => by cases z; exact q.2)
end
end K20
namespace K20
open PySem L2
open Evl (Ex)
open PyProof.Rows (envOfC)
/-! F10: hums drawn within limits, known values. -/
theorem hi_mono {D c : Nat} {L M : List Con} (h : ∀ x ∈ L, NiB D c (addB (some x.1) x.2) ∧ NiB D c (addB (some x.1) (negB x.2))) (hs : ∀ x ∈ M, x ∈ L) (g : Gr D) (hc : c ≤ 1000000) : SmB (hiC M) ∧ SmB (loC M) :=
  ⟨g.sm (hi_sub h hs).1 hc, g.sm (hi_sub h hs).2 hc⟩
theorem frame_sub {n : Nat} {m st : Nat → Option Rat} {ks : List (Nat × Rat)} {h : Nat → Rat} {k : Nat} (j : Nat) : ∀ x ∈ frame n m st h k ++ knC st (ks.take j) k, x ∈ consOf n m st ks h k := fun x hx => by
  rw [cons_eq]
  rcases List.mem_append.mp hx with hx | hx
  · exact List.mem_append_left _ hx
  · exact List.mem_append_right _ (knC_sub x hx)
theorem frame_sub0 {n : Nat} {m st : Nat → Option Rat} {ks : List (Nat × Rat)} {h : Nat → Rat} {k : Nat} : ∀ x ∈ frame n m st h k, x ∈ consOf n m st ks h k := fun x hx => by
  rw [cons_eq]
  exact List.mem_append_left _ hx
theorem kn_nil {n D c : Nat} (hc : c ≤ 1000) : KnOk n [] D c := ⟨knSt_nil, fun p hp => absurd hp (by simp), Nat.zero_le _, hc⟩
theorem hi_skip {n : Nat} {m st : Nat → Option Rat} {h : Nat → Rat} {i : Nat} (hi : 0 < i) (e : st (i - 1) = none) : hiC (frame n m st h i) = ledF n m st i ∧ loC (frame n m st h i) = negB (ledF n m st i) := by
  obtain ⟨k, rfl⟩ : ∃ k, i = k + 1 := ⟨i - 1, by omega⟩
  rw [show k + 1 - 1 = k by omega] at e
  rw [hi_frame, lo_frame, e]
  exact ⟨min_none _, max_none _⟩
theorem hi_step {n : Nat} {m st : Nat → Option Rat} {h : Nat → Rat} {i : Nat} {s : Rat} (hi : 0 < i) (e : st (i - 1) = some s) : hiC (frame n m st h i) = minB (ledF n m st i) (some (h (i - 1) + s)) ∧ loC (frame n m st h i) = maxB (negB (ledF n m st i)) (some (h (i - 1) - s)) := by
  obtain ⟨k, rfl⟩ : ∃ k, i = k + 1 := ⟨i - 1, by omega⟩
  rw [show k + 1 - 1 = k by omega] at e ⊢
  rw [hi_frame, lo_frame, e]
  refine ⟨rfl, ?_⟩
  rw [add_neg]
  rfl
theorem kn_set {n : Nat} {ks : List (Nat × Rat)} {i : Nat} {p : Nat × Rat} (hp : ks[i]? = some p) : ks = ks.take i ++ [p] ++ ks.drop (i + 1) := by
  obtain ⟨hi, e⟩ := List.getElem?_eq_some_iff.mp hp
  rw [List.append_assoc, List.singleton_append, ← e, List.getElem_cons_drop, List.take_append_drop]
theorem knSt_keys {n : Nat} {ks : List (Nat × Rat)} : KnSt n ks ↔ (ks.map (·.1)).Pairwise (· < ·) ∧ ∀ k ∈ ks.map (·.1), k < n := by
  unfold KnSt
  rw [List.pairwise_map]
  refine and_congr Iff.rfl ⟨fun h k hk => ?_, fun h p hp => h p.1 (List.mem_map_of_mem hp)⟩
  obtain ⟨p, hp, rfl⟩ := List.mem_map.mp hk
  exact h p hp
theorem knSt_set {n : Nat} {ks : List (Nat × Rat)} {i : Nat} {p : Nat × Rat} (h : KnSt n ks) (hp : ks[i]? = some p) (v : Rat) : KnSt n (ks.take i ++ [(p.1, v)] ++ ks.drop (i + 1)) := by
  rw [knSt_keys] at h ⊢
  have e : (ks.take i ++ [(p.1, v)] ++ ks.drop (i + 1)).map (·.1) = ks.map (·.1) := by
    conv => rhs; rw [kn_set (n := n) hp]
    simp
  rw [e]
  exact h
theorem kn_sh (ks : List (Nat × Rat)) : shD (kn ks) := ⟨3, by decide, by
  unfold kn
  rw [sh]
  refine shAll_of fun x hx => ?_
  obtain ⟨p, _, rfl⟩ := List.mem_map.mp hx
  simp [kn1, sh, shAll]⟩
theorem kn_ne (ks : List (Nat × Rat)) : (!deq (kn ks) (.tup [])) = !ks.isEmpty := by
  cases ks with
  | nil => simp [deq, kn, pyd, pydAll, PyData.eqv, PyData.eqvAll]
  | cons p ks => simp [deq, kn, pyd, pydAll, PyData.eqv, PyData.eqvAll]
local macro_rules | `(tactic| walk_at "d1") => `(tactic| first
  | with_reducible refine ds_seq ?_
  | with_reducible refine dsr_seq ?_
  | with_reducible refine ds_ret ?_
  | with_reducible refine ds_retN ?_
  | with_reducible refine ds_next ?_
  | with_reducible refine ds_own rfl (dl_list ?_)
  | with_reducible refine ds_own rfl (dl_lst ?_)
  | with_reducible refine ds_app rfl ?_ ?_
  | with_reducible refine ds_put rfl ?_
  | with_reducible refine ds_set rfl ?_
  | with_reducible refine ds_asg ?_
  | with_reducible refine ds_if ?_
  | with_reducible refine ds_par rfl rfl ?_
  | with_reducible refine de_var rfl ?_
  | with_reducible refine de_int ?_
  | with_reducible refine de_bl ?_
  | with_reducible refine de_non ?_
  | with_reducible refine de_str ?_
  | with_reducible refine de_add ?_
  | with_reducible refine de_mul ?_
  | with_reducible refine de_ix_own rfl ?_
  | with_reducible refine de_ix ?_
  | with_reducible refine de_call ?_
  | with_reducible refine de_callH rfl ?_
  | with_reducible refine de_callD (dds := [.non, .non]) (fun _ => .cons .non (.cons .non .nil)) ?_
  | with_reducible refine de_callD (dds := [.non]) (fun _ => .cons .non .nil) ?_
  | with_reducible refine de_chainI ?_
  | with_reducible refine de_opI0 ?_
  | with_reducible refine de_opI ?_
  | with_reducible refine de_opB0 ?_
  | with_reducible refine de_isN ?_
  | with_reducible refine de_notN ?_
  | with_reducible refine de_eqD ?_
  | with_reducible refine de_ne_own rfl ?_
  | with_reducible refine de_neD ?_
  | with_reducible refine de_neg ?_
  | with_reducible refine de_len_own rfl ?_
  | with_reducible refine de_len ?_
  | with_reducible refine de_int1 ?_
  | with_reducible refine de_abs ?_
  | with_reducible refine de_min2 ?_
  | with_reducible refine de_max2 ?_
  | with_reducible refine de_tuple_own rfl ?_
  | with_reducible refine de_tup ?_
  | with_reducible refine de_if ?_
  | with_reducible refine de_isBl ?_
  | with_reducible refine de_isIn ?_
  | with_reducible refine de_isTu ?_
  | with_reducible refine de_isLT ?_
  | with_reducible refine de_andV ?_
  | with_reducible refine de_orV ?_
  | with_reducible refine de_notT ?_
  | with_reducible refine de_fld ?_
  | with_reducible refine de_slice ?_
  | with_reducible refine do_none ?_
  | with_reducible refine do_some ?_
  | with_reducible refine dt_test ?_
  | with_reducible refine dt_tru ?_
  | with_reducible refine dt_and ?_
  | with_reducible refine dt_or ?_
  | with_reducible refine dt_not ?_
  | with_reducible refine da_cons ?_
  | with_reducible refine da_nil ?_
  | with_reducible refine de_lst ?_
  | with_reducible refine de_of_dl (dl_list ?_)
  | with_reducible refine de_mkLimits ?_
  | with_reducible refine de_mkClash ?_
  | with_reducible refine de_lenLim ?_)
local macro_rules | `(tactic| walk_at "d2") => `(tactic| first
  | walk_at "d1"
  | with_reducible refine iteT ?_
  | with_reducible refine iteF ?_
  | with_reducible refine ite_f Bool.not_true ?_
  | with_reducible refine ite_t Bool.not_false ?_
  | (with_reducible refine Exists.intro _ (Exists.intro _ (And.intro rfl (And.intro rfl ?_))))
  | (with_reducible refine Exists.intro _ (And.intro rfl ?_))
  | (with_reducible refine .inl (Exists.intro _ (Exists.intro _ (And.intro rfl (And.intro rfl ?_)))))
  | (refine ⟨_, _, _, .inr rfl, rfl, rfl, ?_⟩)
  | (refine ⟨Nat.le_of_ble_eq_true rfl, ?_⟩)
  | (with_reducible refine And.intro rfl ?_)
  | (with_reducible refine And.intro (by walk_at "mul") ?_)
  | (with_reducible refine And.intro (by walk_at "shd") ?_))
local macro_rules | `(tactic| walk_at "dd") => `(tactic| (repeat walk_at "d2"))
local macro_rules | `(tactic| walk_at "set") => `(tactic| simp only [List.set_cons_zero, List.set_cons_succ])
local macro_rules | `(tactic| walk_at "mul") => `(tactic| first
  | exact mul_nd (by assumption) (by assumption) | exact mul_nn (by assumption) (by assumption) | exact mul_dd (by assumption) (by assumption))
local macro_rules | `(tactic| walk_at "shd") => `(tactic| first
  | exact shD_int _ | exact shD_non | exact shD_rat _ | exact shD_tupTab _ _ | with_reducible assumption)
local macro_rules | `(tactic| walk_at "tg") => `(tactic| refine dg_tup ⟨_, rfl, rfl, dgs_cons (dg_name0 rfl (dgs_cons (dg_name0 rfl (dgs_nil ?_))))⟩)
local macro_rules | `(tactic| walk_at "wp") => `(tactic| simp only [wipeD, List.map_cons, List.map_nil, List.set_cons_zero, List.set_cons_succ])
section
variable {P : Program} {w : World} {K : PySem.W.Frag} {mg : Str → Option Value} {base : Heap} {CL CC CB : Addr}
theorem ok_law_hum_within (T : Txt K mg CL CC CB) (D : Def K mg "_law_hum_within" s_law_hum_within) (C_law_tight : Cal P w K mg base "_law_tight" 6 ["_law_limits"] (spD K p_law_tight)) (C_law_minus_bound : Cal P w K mg base "_law_minus_bound" 1 ["_law_one"] (spD K p_law_minus_bound)) (C_law_least : Cal P w K mg base "_law_least" 2 ["_law_one", "_law_other"] (spD K p_law_least)) (C_law_higher : Cal P w K mg base "_law_higher" 2 ["_law_one", "_law_other"] (spD K p_law_higher)) (C_law_share : Cal P w K mg base "_law_share" 4 ["_law_hand_here", "_law_low", "_law_high"] (spH K p_law_share)) (C_law_plus : Cal P w K mg base "_law_plus" 3 ["_law_one", "_law_other"] (spD K p_law_plus)) (C_law_less : Cal P w K mg base "_law_less" 3 ["_law_one", "_law_other"] (spD K p_law_less))  :
    Cal P w K mg base "_law_hum_within" 7 ["_law_hand_here", "_law_limits"] (spH K p_law_hum_within) := by
  obtain ⟨f, fd, F, hg⟩ := D
  refine ⟨f, fd, ok_H (k := 6) F sc_law_hum_within (fun ds Q h => len_law_hum_within h) (fun cdv A outer s H E hr => ⟨_, (pss_cons (ps_set (i := 2) sc_law_hum_within.nd rfl (Or.inl rfl) (pe_cal C_law_tight hr (by decide) rfl (pa_cons (pv 1) pa_nil)))
    (pss_cons (ps_set (i := 3) sc_law_hum_within.nd rfl (Or.inl rfl) (pe_lst pa_nil))
    (pss_cons (ps_for PassesOwn.never rfl (pi_range1 rfl T.bi.range (pa_cons (pe_len T.bi (pe_ix ix_seq (pv 1) pe_int (fun _ _ => rfl))) pa_nil)) (pg_name (i := 4) sc_law_hum_within.nd rfl (Or.inl rfl)) (pss_cons (ps_set (i := 5) sc_law_hum_within.nd rfl (Or.inl rfl) (pe_ix ix_seq (pe_ix ix_seq (pv 2) pe_int (fun _ _ => rfl)) (pv 4) (fun _ _ => rfl)))
    (pss_cons (ps_set (i := 6) sc_law_hum_within.nd rfl (Or.inl rfl) (pe_cal C_law_minus_bound hr (by decide) rfl (pa_cons (pv 5) pa_nil)))
    (pss_cons (ps_if (PW.pt (pw_and (pt_cmpR op_gt (pv 4) pe_int (nomark _)) (pw_and1 (pt_cmpR op_notN (pe_ix ix_seq (pe_ix ix_seq (pv 1) pe_int (fun _ _ => rfl)) (pe_op op_sub (pv 4) pe_int) (fun _ _ => rfl)) pe_non (nomark _))))) (pss_cons (ps_set (i := 5) sc_law_hum_within.nd rfl (Or.inl rfl) (pe_cal C_law_least hr (by decide) rfl (pa_cons (pv 5) (pa_cons (pe_cal C_law_plus hr (by decide) rfl (pa_cons (pe_ix ix_seq (pv 3) (pe_un un_neg pe_int) (fun _ _ => rfl)) (pa_cons (pe_ix ix_seq (pe_ix ix_seq (pv 1) pe_int (fun _ _ => rfl)) (pe_op op_sub (pv 4) pe_int) (fun _ _ => rfl)) pa_nil))) pa_nil))))
    (pss_one (ps_set (i := 6) sc_law_hum_within.nd rfl (Or.inl rfl) (pe_cal C_law_higher hr (by decide) rfl (pa_cons (pv 6) (pa_cons (pe_cal C_law_less hr (by decide) rfl (pa_cons (pe_ix ix_seq (pv 3) (pe_un un_neg pe_int) (fun _ _ => rfl)) (pa_cons (pe_ix ix_seq (pe_ix ix_seq (pv 1) pe_int (fun _ _ => rfl)) (pe_op op_sub (pv 4) pe_int) (fun _ _ => rfl)) pa_nil))) pa_nil)))))) pss_nil)
    (pss_one (ps_expr (pe_bm PySem.F.plainAttrs_list PySem.F.slot_list_append PySem.F.type_list_append mt_append (pv 3) (pa_cons (pe_cal C_law_share hr (by decide) rfl (pa_cons (pv 0) (pa_cons (pv 6) (pa_cons (pv 5) pa_nil)))) pa_nil))))))))
    (pss_one (ps_ret (pe_tuple T.bi (pv 3))))))), fun G0 H0 l ds Q h => ?_⟩), hg, F.kp, F.binds fun _ _ _ _ _ _ us hl => match us, hl with | [_, _], _ => rfl⟩
  try dsimp only [cxOf, Cx.nox, Cx.wish]
  obtain ⟨n, m, st, D, rfl, l, gr, k⟩ := h
  change DS _ _ [.hand, _, .no, .no, .no, .no, .no] _
  have hn1 := l.n1
  have hn2 := l.n2
  walk_at "dd"
  refine ⟨n, m, st, D, rfl, l, ?_⟩
  walk_at "set"
  walk_at "dd"
  walk_at "set"
  generalize Dt.tup (tab (n - 1) (tightS n m st)) = td
  refine ds_forR1 (fun i ρ => ∃ (h : Nat → Rat) (x4 x5 x6 : Sl), Row n m st [] D 0 h i ∧ ρ = [.hand, .dt (lim n m st), .dt (.tup [.tup (tab n (ledF n m st)), td]), .own (tab i fun k => some (h k)), x4, x5, x6]) ?_
  walk_at "dd"
  refine .inl ⟨_, .inr rfl, ?_⟩
  rw [tab_len]
  walk_at "dd"
  refine ⟨bR_small (by omega) (by omega), ⟨fun _ => 0, _, _, _, ⟨row_zero, fun i hi => absurd hi (Nat.not_lt_zero i)⟩, rfl⟩, ?_, ?_⟩
  · rintro i ρ hi ⟨h, x4, x5, x6, hr', rfl⟩
    have hin : i < n := by omega
    have gi := gr_pow gr (k := i) (by omega)
    have gi1 := gr_pow gr (k := i + 1) (by omega)
    have li := l.up (E := D * 6 ^ i) ⟨6 ^ i, rfl⟩ gi
    have cn := hr'.cons li knSt_nil (fun p hp => absurd hp (by simp)) hin
    have smC := hi_mono cn (M := frame n m st h i) frame_sub0 gi (by omega)
    have smL : SmB (ledF n m st i) := gi.sm (li.led hin) (by omega)
    refine dg_name0 rfl ?_
    walk_at "set"
    walk_at "dd"
    refine ⟨_, _, _, .inr rfl, rfl, tab_at (k := i) _ hin rfl, ?_⟩
    walk_at "set"
    walk_at "dd"
    refine ⟨_, rfl, ?_⟩
    walk_at "set"
    refine ds_seqI (fun ρ => ρ = [.hand, .dt (lim n m st), .dt (.tup [.tup (tab n (ledF n m st)), td]), .own (tab i fun k => some (h k)), .dt (.int i), .dt (bd (hiC (frame n m st h i))), .dt (bd (loC (frame n m st h i)))]) ?_ ?_
    · walk_at "dd"
      by_cases h0 : 0 < i
      · refine ite_t (decide_eq_true (by omega)) ?_
        walk_at "dd"
        refine ⟨_, _, _, .inr rfl, rfl, tab_at (k := i - 1) _ (by omega) (by omega), ?_⟩
        walk_at "dd"
        rw [isNon_bd]
        cases e : st (i - 1) with
        | none =>
          refine ite_f rfl ?_
          walk_at "dd"
          obtain ⟨e1, e2⟩ := hi_skip (n := n) (m := m) (h := h) h0 e
          rw [e1, e2]
        | some s =>
          have nS : Ni (D * 6 ^ i) 1 s := li.ns (i - 1) s e
          have nH := hr'.ni (i - 1) (by omega)
          have smS := nS.sm gi.pos gi.lt (by omega)
          have smH := nH.sm gi.pos gi.lt (by omega)
          refine ite_t rfl ?_
          walk_at "dd"
          refine ⟨_, _, rfl, tab_last _ h0, ?_⟩
          walk_at "dd"
          refine ⟨_, _, _, .inr rfl, rfl, tab_at (k := i - 1) _ (by omega) (by omega), ?_⟩
          walk_at "dd"
          rw [e]
          refine ⟨h (i - 1), s, rfl, smH, smS, ?_⟩
          walk_at "dd"
          refine ⟨ledF n m st i, some (h (i - 1) + s), rfl, smL, gi.sm (NiB.some (nH.add nS)) (by omega), ?_⟩
          walk_at "set"
          walk_at "dd"
          refine ⟨_, _, rfl, tab_last _ h0, ?_⟩
          walk_at "dd"
          refine ⟨_, _, _, .inr rfl, rfl, tab_at (k := i - 1) _ (by omega) (by omega), ?_⟩
          walk_at "dd"
          rw [e]
          refine ⟨h (i - 1), s, rfl, smH, smS, ?_⟩
          walk_at "dd"
          refine ⟨negB (ledF n m st i), some (h (i - 1) - s), rfl, gi.sm (li.led hin).neg (by omega), gi.sm (NiB.some (nH.sub nS)) (by omega), ?_⟩
          walk_at "set"
          obtain ⟨e1, e2⟩ := hi_step (n := n) (m := m) (h := h) h0 e
          rw [e1, e2]
      · obtain rfl : i = 0 := by omega
        refine ite_f rfl ?_
        refine ite_f rfl ?_
        walk_at "dd"
        rw [hi_frame0, lo_frame0]
    · rintro ρ rfl
      refine ds_app rfl (by rw [tab_len]; omega) ?_
      walk_at "dd"
      have eC : consOf n m st [] h i = frame n m st h i := by rw [cons_eq]; exact List.append_nil _
      have cmp := cons_comp l.ps (fun j _ => l.pm j) knSt_nil noClash_nil hin hr'.ok
      have nn := hi_sub cn (M := frame n m st h i) frame_sub0
      refine ⟨_, _, D * 6 ^ i, 0 + 26 + i, rfl, ?_, by omega, by omega, ?_, nn.2, nn.1, ?_, fun x hx h1 h2 => ?_⟩
      · rw [Nat.mul_assoc, ← Nat.pow_succ]; exact gi1
      · exact lo_none_iff _
      · rw [← eC]
        exact fun a b ea eb => itv_le cmp ea eb
      · walk_at "set"
        rw [ext_some]
        exact ⟨fun j => if j = i then x else h j, _, _, _, hr'.next hx (by rw [eC]; exact h1) (by rw [eC]; exact h2), rfl⟩
  · rintro ρ ⟨h, x4, x5, x6, hr', rfl⟩
    rw [show ((n : Nat) : Int).toNat = n from rfl] at *
    walk_at "dd"
    exact k h hr'.ok fun i hi => ((hr'.ni i hi).lift (pow6 D hn2)).mono (by omega)
theorem ok_law_known_of (T : Txt K mg CL CC CB) (D : Def K mg "_law_known_of" s_law_known_of) (C_law_take : Cal P w K mg base "_law_take" 2 ["_law_hand_here", "_law_many_here"] (spH K p_law_take))  :
    Cal P w K mg base "_law_known_of" 3 ["_law_hand_here", "_law_hum_here"] (spH K p_law_known_of) := by
  obtain ⟨f, fd, F, hg⟩ := D
  refine ⟨f, fd, ok_H (k := 2) F sc_law_known_of (fun ds Q h => len_law_known_of h) (fun cdv A outer s H E hr => ⟨_, (pss_cons (ps_set (i := 2) sc_law_known_of.nd rfl (Or.inr rfl) (pe_op op_addA pe_int (pe_cal C_law_take hr (by decide) rfl (pa_cons (pv 0) (pa_cons pe_int pa_nil)))))
    (pss_one (ps_ret (pe_tuple T.bi (pe_lc (own := [("_law_k", 3)]) (g := gName 3) rfl sc_law_known_of.nd (pi_range1 rfl T.bi.range (pa_cons (pe_len T.bi (pv 1)) pa_nil)) (blkOk_by (own := [("_law_k", 3)]) (N := ["_law_hand_here", "_law_hum_here", "_law_share_here", "_law_k"]) (sc := defScope s_law_known_of) (by decide +kernel)) (fun _ _ _ _ _ => (pg_name (i := 3) sc_law_known_of.nd rfl (Or.inl rfl))) (fun _ _ _ _ _ => (pts_one (pt_cmpR (op_eqDC (K := K) rfl hr.units) (pe_cal C_law_take hr (by decide) rfl (pa_cons (pv 0) (pa_cons (pv 2) pa_nil))) pe_int (nomark _)))) (fun _ _ _ _ _ => (pe_tup (pa_cons (pv 3) (pa_cons (pe_ixC (K := K) rfl (pv 1) (pv 3) (fun _ _ => rfl)) pa_nil))))))))), fun G0 H0 l ds Q h => ?_⟩), hg, F.kp, F.binds fun _ _ _ _ _ _ us hl => match us, hl with | [_, _], _ => rfl⟩
  try dsimp only [cxOf, Cx.nox, Cx.wish]
  obtain ⟨n, h, rfl, hn, k⟩ := h
  change DS _ _ [.hand, _, .no, .no] _
  walk_at "dd"
  refine ⟨5, rfl, by decide, by decide, fun s hs0 hs1 => ?_⟩
  walk_at "set"
  walk_at "dd"
  refine de_tuple_dl ?_
  refine dl_lcR1 hw_name (fun i acc => ∃ ks : List (Nat × Rat), KnSt n ks ∧ (∀ p ∈ ks, p.2 = h p.1 ∧ p.1 < i) ∧ ks.length ≤ i ∧ acc = ks.map kn1) ?_
  walk_at "dd"
  refine .inl ⟨_, .inr rfl, ?_⟩
  rw [tab_len]
  walk_at "dd"
  refine ⟨bR_small (by omega) (by omega), ⟨[], knSt_nil, fun p hp => absurd hp (by simp), Nat.le_refl _, rfl⟩, ?_, ?_⟩
  · rintro i acc hi ⟨ks, h1, h2, h3, rfl⟩
    unfold DLt
    refine dg_name0 rfl ?_
    walk_at "wp"
    walk_at "dd"
    refine ⟨_, rfl, by omega, by omega, fun r hr0 hr1 => ?_⟩
    walk_at "dd"
    rw [deq_int]
    by_cases e : r = 0
    · refine ite_t (by rw [e]; rfl) ?_
      walk_at "dd"
      refine ⟨_, _, _, .inr rfl, rfl, tab_at (k := i) _ (by omega) rfl, ?_⟩
      walk_at "dd"
      refine ⟨by rw [List.length_map]; omega, ks ++ [(i, h i)], ?_, fun p hp => ?_, ?_, ?_⟩
      · refine ⟨List.pairwise_append.mpr ⟨h1.1, List.pairwise_singleton _ _, fun p hp q hq => ?_⟩, fun p hp => ?_⟩
        · rw [List.mem_singleton.mp hq]
          exact (h2 p hp).2
        · rcases List.mem_append.mp hp with hp | hp
          · exact h1.2 p hp
          · rw [List.mem_singleton.mp hp]
            show i < n
            omega
      · rcases List.mem_append.mp hp with hp | hp
        · exact ⟨(h2 p hp).1, by have := (h2 p hp).2; omega⟩
        · rw [List.mem_singleton.mp hp]
          exact ⟨rfl, by show i < i + 1; omega⟩
      · rw [List.length_append]
        show _ + 1 ≤ _
        omega
      · rw [List.map_append]
        rfl
    · refine ite_f (by simpa using e) ?_
      exact ⟨ks, h1, fun p hp => ⟨(h2 p hp).1, by have := (h2 p hp).2; omega⟩, by omega, rfl⟩
  · rintro acc ⟨ks, h1, h2, h3, rfl⟩
    exact k ks h1 (fun p hp => (h2 p hp).1) h3
theorem ok_law_known (T : Txt K mg CL CC CB) (D : Def K mg "_law_known" s_law_known) (C_law_take : Cal P w K mg base "_law_take" 2 ["_law_hand_here", "_law_many_here"] (spH K p_law_take)) (C_law_known_of : Cal P w K mg base "_law_known_of" 3 ["_law_hand_here", "_law_hum_here"] (spH K p_law_known_of)) (C_law_hum_within : Cal P w K mg base "_law_hum_within" 7 ["_law_hand_here", "_law_limits"] (spH K p_law_hum_within)) (C_law_plus : Cal P w K mg base "_law_plus" 3 ["_law_one", "_law_other"] (spD K p_law_plus)) (C_law_ratio : Cal P w K mg base "_law_ratio" 2 ["_law_top", "_law_bottom"] (spD K p_law_ratio))  :
    Cal P w K mg base "_law_known" 8 ["_law_hand_here", "_law_limits"] (spH K p_law_known) := by
  obtain ⟨f, fd, F, hg⟩ := D
  refine ⟨f, fd, ok_H (k := 7) F sc_law_known (fun ds Q h => len_law_known h) (fun cdv A outer s H E hr => ⟨_, (pss_cons (ps_set (i := 2) sc_law_known.nd rfl (Or.inl rfl) (pe_cal C_law_take hr (by decide) rfl (pa_cons (pv 0) (pa_cons pe_int pa_nil))))
    (pss_cons (ps_if (pt_cmpR op_lt (pv 2) pe_int (nomark _)) (pss_one (ps_ret (pe_tup pa_nil))) pss_nil)
    (pss_cons (ps_set (i := 3) sc_law_known.nd rfl (Or.inl rfl) (pe_cal C_law_known_of hr (by decide) rfl (pa_cons (pv 0) (pa_cons (pe_cal C_law_hum_within hr (by decide) rfl (pa_cons (pv 0) (pa_cons (pv 1) pa_nil))) pa_nil))))
    (pss_cons (ps_if (PW.pt (pw_and (pt_cmpR (op_eqD hr.units) (pv 2) pe_int (nomark _)) (pw_and1 (pt_cmpR (op_neD hr.units) (pv 3) (pe_tup pa_nil) (nomark _))))) (pss_cons (ps_set (i := 4) sc_law_known.nd rfl (Or.inl rfl) (pe_cal C_law_take hr (by decide) rfl (pa_cons (pv 0) (pa_cons (pe_len T.bi (pv 3)) pa_nil))))
    (pss_cons (ps_asg (pe_ix ix_seq (pv 3) (pv 4) (fun _ _ => rfl)) (pg_tup rfl (pgs_cons (pg_name (i := 5) sc_law_known.nd rfl (Or.inl rfl)) (pgs_cons (pg_name (i := 6) sc_law_known.nd rfl (Or.inl rfl)) pgs_nil))))
    (pss_cons (ps_set (i := 7) sc_law_known.nd rfl (Or.inl rfl) (pe_cal C_law_plus hr (by decide) rfl (pa_cons (pv 6) (pa_cons (pe_cal C_law_ratio hr (by decide) rfl (pa_cons (pe_op op_sub (pe_cal C_law_take hr (by decide) rfl (pa_cons (pv 0) (pa_cons pe_int pa_nil))) pe_int) (pa_cons pe_int pa_nil))) pa_nil))))
    (pss_one (ps_ret (pe_op op_addA (pe_op op_addA (pe_slice sl_any (pv 3) po_none (po_some (pv 4))) (pe_tup (pa_cons (pe_tup (pa_cons (pv 5) (pa_cons (pv 7) pa_nil))) pa_nil))) (pe_slice sl_any (pv 3) (po_some (pe_op op_addA (pv 4) pe_int)) po_none))))))) pss_nil)
    (pss_one (ps_ret (pv 3))))))), fun G0 H0 l ds Q h => ?_⟩), hg, F.kp, F.binds fun _ _ _ _ _ _ us hl => match us, hl with | [_, _], _ => rfl⟩
  try dsimp only [cxOf, Cx.nox, Cx.wish]
  obtain ⟨n, m, st, D, rfl, l, gr, k⟩ := h
  change DS _ _ [.hand, _, .no, .no, .no, .no, .no, .no] _
  have hn2 := l.n2
  have gr6 : Gr (D * 6 ^ 24) := ⟨Nat.pos_of_mul_pos_right gr.pos, by have := gr.lt; omega⟩
  walk_at "dd"
  refine ⟨4, rfl, by decide, by decide, fun t ht0 ht1 => ?_⟩
  walk_at "set"
  walk_at "dd"
  by_cases e : t < 2
  · refine ite_t (decide_eq_true e) ?_
    walk_at "dd"
    exact k [] (kn_nil (by decide))
  refine ite_f (decide_eq_false e) ?_
  walk_at "dd"
  refine ⟨n, m, st, D, rfl, l, gr6, fun h hr' hh => ?_⟩
  walk_at "dd"
  refine ⟨n, h, rfl, hn2, fun ks h1 h2 h3 => ?_⟩
  walk_at "set"
  have ok : KnOk n ks (D * 6 ^ 24 * 2) 60 := ⟨h1, fun p hp => by rw [h2 p hp]; exact ((hh p.1 (h1.2 p hp)).lift ⟨2, rfl⟩).mono (by decide), h3, by decide⟩
  have sk := kn_sh ks
  refine ds_seqI (fun ρ => ∃ x4 x5 x6 x7, ρ = [.hand, .dt (lim n m st), .dt (.int t), .dt (kn ks), x4, x5, x6, x7]) ?_ ?_
  · walk_at "dd"
    rw [deq_int]
    by_cases e3 : t = 3
    · refine ite_t (by rw [e3]; rfl) ?_
      walk_at "dd"
      refine ⟨kn_sh [], ?_⟩
      walk_at "dd"
      rw [kn_ne]
      cases em : ks.isEmpty with
      | true =>
        refine ite_f rfl ?_
        walk_at "dd"
        exact ⟨_, _, _, _, rfl⟩
      | false =>
        have hpos : 0 < ks.length := by
          cases ks with
          | nil => cases em
          | cons _ _ => exact Nat.succ_pos _
        refine ite_t rfl ?_
        walk_at "dd"
        refine .inl ⟨_, .inr rfl, ?_⟩
        rw [List.length_map]
        walk_at "dd"
        refine ⟨_, rfl, by omega, by omega, fun r hr0 hr1 => ?_⟩
        obtain ⟨i, rfl⟩ : ∃ i : Nat, r = (i : Int) := ⟨r.toNat, by omega⟩
        obtain ⟨p, hp⟩ : ∃ p, ks[i]? = some p := ⟨ks[i]'(by omega), List.getElem?_eq_getElem _⟩
        have hpm := List.mem_of_getElem? hp
        have niP := ok.ni p hpm
        walk_at "set"
        walk_at "dd"
        refine ⟨_, _, _, .inr rfl, rfl, atI_nat (j := i) (v := kn1 p) (by rw [List.getElem?_map, hp]; rfl), ?_⟩
        walk_at "tg"
        walk_at "set"
        walk_at "dd"
        refine ⟨13, rfl, by decide, by decide, fun s hs0 hs1 => ?_⟩
        walk_at "dd"
        refine ⟨_, _, rfl, by omega, sm8 (by omega), ?_⟩
        have niM : Ni (D * 6 ^ 24 * 2) 1 (mkRat (s - 6) (2 : Int).toNat) := Ni.of_mk (by decide) ⟨D * 6 ^ 24, Nat.mul_comm _ _⟩ (by omega)
        walk_at "dd"
        refine ⟨p.2, _, rfl, niP.sm gr.pos gr.lt (by omega), niM.sm gr.pos gr.lt (by omega), ?_⟩
        walk_at "set"
        generalize hv : p.2 + mkRat (s - 6) (2 : Int).toNat = v
        have niV : Ni (D * 6 ^ 24 * 2) 60 v := by
          rw [← hv]
          have : Ni (D * 6 ^ 24 * 2) 50 p.2 := by rw [h2 p hpm]; exact (hh p.1 (h1.2 p hpm)).lift ⟨2, rfl⟩
          exact (this.add niM).mono (by decide)
        walk_at "dd"
        refine .inl ⟨_, rfl, ?_⟩
        rw [cut_to (by rw [List.length_map]; omega)]
        walk_at "dd"
        refine .inr (.inl ⟨_, _, rfl, rfl, ?_, ?_⟩)
        · rw [List.length_take, List.length_map]
          show _ + 1 ≤ _
          omega
        walk_at "dd"
        refine .inl ⟨_, rfl, ?_⟩
        rw [show ((i : Int) + 1) = ((i + 1 : Nat) : Int) by omega, cut_from (by rw [List.length_map]; omega)]
        refine .inr (.inl ⟨_, _, rfl, rfl, ?_, ?_⟩)
        · rw [List.length_append, List.length_take, List.length_drop, List.length_map]
          show _ + 1 + _ ≤ _
          omega
        have fin := k (ks.take i ++ [(p.1, v)] ++ ks.drop (i + 1)) ⟨knSt_set h1 hp v, fun q hq => ?_, ?_, by decide⟩
        · unfold kn at fin
          rw [List.map_append, List.map_append, List.map_take, List.map_drop] at fin
          exact fin
        · rcases List.mem_append.mp hq with hq | hq
          · rcases List.mem_append.mp hq with hq | hq
            · exact ok.ni q (List.mem_of_mem_take hq)
            · rw [List.mem_singleton.mp hq]
              exact niV
          · exact ok.ni q (List.mem_of_mem_drop hq)
        · rw [List.length_append, List.length_append, List.length_take, List.length_drop]
          show _ + 1 + _ ≤ _
          omega
    · refine ite_f (by simpa using e3) ?_
      refine ite_f rfl ?_
      walk_at "dd"
      exact ⟨_, _, _, _, rfl⟩
  · rintro ρ ⟨x4, x5, x6, x7, rfl⟩
    walk_at "dd"
    exact k ks ok
theorem ok_law_drawn (T : Txt K mg CL CC CB) (D : Def K mg "_law_drawn" s_law_drawn) (C_law_take : Cal P w K mg base "_law_take" 2 ["_law_hand_here", "_law_many_here"] (spH K p_law_take)) (C_law_known_of : Cal P w K mg base "_law_known_of" 3 ["_law_hand_here", "_law_hum_here"] (spH K p_law_known_of)) (C_law_known : Cal P w K mg base "_law_known" 8 ["_law_hand_here", "_law_limits"] (spH K p_law_known)) (C_law_hum : Cal P w K mg base "_law_hum" 3 ["_law_hand_here", "_law_count"] (spH K p_law_hum))  :
    Cal P w K mg base "_law_drawn" 9 ["_law_hand_here", "_law_limits"] (spH K p_law_drawn) := by
  obtain ⟨f, fd, F, hg⟩ := D
  refine ⟨f, fd, ok_H (k := 8) F sc_law_drawn (fun ds Q h => len_law_drawn h) (fun cdv A outer s H E hr => ⟨_, (pss_cons (ps_if (pt_tru (pe_cal C_law_take hr (by decide) rfl (pa_cons (pv 0) (pa_cons pe_int pa_nil)))) (pss_one (ps_ret (pe_cal C_law_known hr (by decide) rfl (pa_cons (pv 0) (pa_cons (pv 1) pa_nil))))) pss_nil)
    (pss_one (ps_ret (pe_cal C_law_known_of hr (by decide) rfl (pa_cons (pv 0) (pa_cons (pe_cal C_law_hum hr (by decide) rfl (pa_cons (pv 0) (pa_cons (pe_len T.bi (pe_ix ix_seq (pv 1) pe_int (fun _ _ => rfl))) pa_nil))) pa_nil)))))), fun G0 H0 l ds Q h => ?_⟩), hg, F.kp, F.binds fun _ _ _ _ _ _ us hl => match us, hl with | [_, _], _ => rfl⟩
  try dsimp only [cxOf, Cx.nox, Cx.wish]
  obtain ⟨n, m, st, D, rfl, l, gr, k⟩ := h
  change DS _ _ [.hand, _] _
  have hn1 := l.n1
  have hn2 := l.n2
  walk_at "dd"
  refine ⟨3, rfl, by decide, by decide, fun t ht0 ht1 => ?_⟩
  walk_at "dd"
  by_cases e : t = 0
  · refine ite_f (by rw [e]; rfl) ?_
    walk_at "dd"
    refine .inl ⟨_, .inr rfl, ?_⟩
    rw [tab_len]
    walk_at "dd"
    refine ⟨n, rfl, hn2, fun h hh => ?_⟩
    walk_at "dd"
    refine ⟨n, h, rfl, hn2, fun ks h1 h2 h3 => ?_⟩
    exact k ks ⟨h1, fun p hp => by rw [h2 p hp]; exact ((hh p.1 (h1.2 p hp)).lift ⟨D * 6 ^ 24, Nat.mul_comm _ _⟩).mono (by decide), h3, by decide⟩
  · refine ite_t (by simpa using e) ?_
    walk_at "dd"
    exact ⟨n, m, st, D, rfl, l, gr, k⟩
end
end K20
namespace K20
open PySem L2
open Evl (Ex)
open PyProof.Rows (envOfC)
/-! F11: hums that keep the values; rows spoilt. -/
def p_law_odd_ratio (ds : List Dt) (Q : Dt → Prop) : Prop := ds = [] ∧ ∀ d, sh 1 d = true → isRt d = false → Q d
theorem len_law_odd_ratio {ds : List Dt} {Q : Dt → Prop} (h : p_law_odd_ratio ds Q) : ds.length + 1 = 1 := by
  obtain ⟨rfl, _⟩ := h; rfl
/-- an entry's two parts -/
def pr : Dt → Option (Dt × Dt)
  | .lst [a, b] => some (a, b)
  | .tup [a, b] => some (a, b)
  | _ => none
def Gv (D : Nat) (b : Dt) : Prop := isRt b = true → ∃ q, b = rat q ∧ Ni D 60 q
/-- a ratio that an entry bears is small -/
def Ge (D : Nat) (x : Dt) : Prop := ∀ a b, pr x = some (a, b) → Gv D b
def seqOf : Dt → Option (List Dt)
  | .lst xs => some xs
  | .tup xs => some xs
  | _ => none
def Gs (D : Nat) (xs : List Dt) : Prop := ∀ x ∈ xs, Ge D x
def Good (D : Nat) (d : Dt) : Prop := ∀ xs, seqOf d = some xs → Gs D xs
theorem gs_app {D : Nat} {xs ys : List Dt} (h1 : Gs D xs) (h2 : Gs D ys) : Gs D (xs ++ ys) := fun x hx => by
  rcases List.mem_append.mp hx with hx | hx
  · exact h1 x hx
  · exact h2 x hx
theorem gs_cut {D : Nat} {xs : List Dt} {lo hi : Option Int} (h : Gs D xs) : Gs D (cutD xs lo hi) := fun x hx => h x (List.mem_of_mem_drop (List.mem_of_mem_take hx))
theorem gs_one {D : Nat} {x : Dt} (h : Ge D x) : Gs D [x] := fun y hy => by rw [List.mem_singleton.mp hy]; exact h
theorem gs_rep {D k : Nat} {xs : List Dt} (h : Gs D xs) : Gs D (List.replicate k xs).flatten := fun x hx => by
  obtain ⟨l, h1, h2⟩ := List.mem_flatten.mp hx
  rw [List.eq_of_mem_replicate h1] at h2
  exact h x h2
theorem ge_none {D : Nat} {x : Dt} (h : pr x = none) : Ge D x := fun a b e => by rw [h] at e; cases e
theorem ge_lst {D : Nat} {a b : Dt} (h : Gv D b) : Ge D (.lst [a, b]) := fun a' b' e => by cases e; exact h
theorem ge_tup {D : Nat} {a b : Dt} (h : Gv D b) : Ge D (.tup [a, b]) := fun a' b' e => by cases e; exact h
theorem gv_rat {D : Nat} {q : Rat} (h : Ni D 60 q) : Gv D (rat q) := fun _ => ⟨q, rfl, h⟩
theorem gv_no {D : Nat} {b : Dt} (h : isRt b = false) : Gv D b := fun z => by rw [h] at z; cases z
theorem gv_0 {D : Nat} : Gv D (.tup [.int 0, .int 1]) := gv_rat (q := 0) (Ni.zero D 60)
theorem gv_1 {D : Nat} : Gv D (.tup [.int 1, .int 1]) := by
  rw [← rat_int]
  exact gv_rat ((Ni.of_mk (by decide) (Nat.one_dvd D) (by decide)).mono (by decide))
theorem at_all {xs : List Dt} {i : Int} {P : Dt → Prop} (h : ∀ x ∈ xs, P x) (h0 : 0 ≤ i) (h1 : i < xs.length) : ∃ d, atI xs i = some d ∧ P d := by
  obtain ⟨k, rfl⟩ : ∃ k : Nat, i = (k : Int) := ⟨i.toNat, by omega⟩
  have hk : k < xs.length := by omega
  exact ⟨xs[k], atI_nat (List.getElem?_eq_getElem hk), h _ (List.getElem_mem hk)⟩
def p_law_spoilt (ds : List Dt) (Q : Dt → Prop) : Prop := ∃ (n : Nat) (ks : List (Nat × Rat)) (D : Nat), ds = [.int n, kn ks] ∧ n ≤ 24 ∧ ks.length ≤ n ∧ 2 ∣ D ∧ (∀ p ∈ ks, Ni D 60 p.2) ∧ ∀ d, sh 10 d = true → Good D d → (∀ xs, d ≠ .tup xs) → Q d
theorem len_law_spoilt {ds : List Dt} {Q : Dt → Prop} (h : p_law_spoilt ds Q) : ds.length + 1 = 3 := by
  obtain ⟨_, _, _, rfl, _⟩ := h; rfl
theorem at_sh {xs : List Dt} {i : Int} {n : Nat} (h : shAll n xs = true) (h0 : 0 ≤ i) (h1 : i < xs.length) : ∃ d, atI xs i = some d ∧ sh n d = true := by
  obtain ⟨k, rfl⟩ : ∃ k : Nat, i = (k : Int) := ⟨i.toNat, by omega⟩
  have hk : k < xs.length := by omega
  exact ⟨xs[k], atI_nat (List.getElem?_eq_getElem hk), shD_mem h (List.getElem_mem hk)⟩
theorem shAll_app {n : Nat} {xs ys : List Dt} (h1 : shAll n xs = true) (h2 : shAll n ys = true) : shAll n (xs ++ ys) = true := shAll_of fun x hx => by
  rcases List.mem_append.mp hx with hx | hx
  · exact shD_mem h1 hx
  · exact shD_mem h2 hx
theorem shAll_take {n i : Nat} {xs : List Dt} (h : shAll n xs = true) : shAll n (xs.take i) = true := shAll_of fun x hx => shD_mem h (List.mem_of_mem_take hx)
theorem shAll_drop {n i : Nat} {xs : List Dt} (h : shAll n xs = true) : shAll n (xs.drop i) = true := shAll_of fun x hx => shD_mem h (List.mem_of_mem_drop hx)
theorem shAll_cut {n : Nat} {xs : List Dt} {lo hi : Option Int} (h : shAll n xs = true) : shAll n (cutD xs lo hi) = true := shAll_take (shAll_drop h)
theorem cut_len {xs : List Dt} {lo hi : Option Int} : (cutD xs lo hi).length ≤ xs.length := by
  unfold cutD
  rw [List.length_take, List.length_drop]
  omega
theorem shAll_one {n : Nat} {x : Dt} (h : sh n x = true) : shAll n [x] = true := by simp [shAll, h]
theorem shAll_rep {n k : Nat} {xs : List Dt} (h : shAll n xs = true) : shAll n (List.replicate k xs).flatten = true := shAll_of fun x hx => by
  obtain ⟨l, h1, h2⟩ := List.mem_flatten.mp hx
  rw [List.eq_of_mem_replicate h1] at h2
  exact shD_mem h h2
theorem lst_ne (xs : List Dt) : (!deq (.lst xs) (.lst [])) = !xs.isEmpty := by
  cases xs with
  | nil => simp [deq, pyd, pydAll, PyData.eqv, PyData.eqvAll]
  | cons p ks => simp [deq, pyd, pydAll, PyData.eqv, PyData.eqvAll]
local macro_rules | `(tactic| walk_at "d1") => `(tactic| first
  | with_reducible refine ds_seq ?_
  | with_reducible refine dsr_seq ?_
  | with_reducible refine ds_ret ?_
  | with_reducible refine ds_retN ?_
  | with_reducible refine ds_next ?_
  | with_reducible refine ds_own rfl (dl_list ?_)
  | with_reducible refine ds_own rfl (dl_lst ?_)
  | with_reducible refine ds_app rfl ?_ ?_
  | with_reducible refine ds_put rfl ?_
  | with_reducible refine ds_set rfl ?_
  | with_reducible refine ds_asg ?_
  | with_reducible refine ds_if ?_
  | with_reducible refine ds_par rfl rfl ?_
  | with_reducible refine de_var rfl ?_
  | with_reducible refine de_int ?_
  | with_reducible refine de_bl ?_
  | with_reducible refine de_non ?_
  | with_reducible refine de_str ?_
  | with_reducible refine de_add ?_
  | with_reducible refine de_mul ?_
  | with_reducible refine de_ix_own rfl ?_
  | with_reducible refine de_ix ?_
  | with_reducible refine de_call ?_
  | with_reducible refine de_callH rfl ?_
  | with_reducible refine de_callD (dds := [.non, .non]) (fun _ => .cons .non (.cons .non .nil)) ?_
  | with_reducible refine de_callD (dds := [.non]) (fun _ => .cons .non .nil) ?_
  | with_reducible refine de_chainI ?_
  | with_reducible refine de_opI0 ?_
  | with_reducible refine de_opI ?_
  | with_reducible refine de_opB0 ?_
  | with_reducible refine de_isN ?_
  | with_reducible refine de_notN ?_
  | with_reducible refine de_eqD ?_
  | with_reducible refine de_ne_own rfl ?_
  | with_reducible refine de_neD ?_
  | with_reducible refine de_neg ?_
  | with_reducible refine de_len_own rfl ?_
  | with_reducible refine de_len ?_
  | with_reducible refine de_int1 ?_
  | with_reducible refine de_abs ?_
  | with_reducible refine de_min2 ?_
  | with_reducible refine de_max2 ?_
  | with_reducible refine de_tuple_own rfl ?_
  | with_reducible refine de_tup ?_
  | with_reducible refine de_if ?_
  | with_reducible refine de_isBl ?_
  | with_reducible refine de_isIn ?_
  | with_reducible refine de_isTu ?_
  | with_reducible refine de_isLT ?_
  | with_reducible refine de_andV ?_
  | with_reducible refine de_orV ?_
  | with_reducible refine de_notT ?_
  | with_reducible refine de_fld ?_
  | with_reducible refine de_slice ?_
  | with_reducible refine do_none ?_
  | with_reducible refine do_some ?_
  | with_reducible refine dt_test ?_
  | with_reducible refine dt_tru ?_
  | with_reducible refine dt_and ?_
  | with_reducible refine dt_or ?_
  | with_reducible refine dt_not ?_
  | with_reducible refine da_cons ?_
  | with_reducible refine da_nil ?_
  | with_reducible refine de_lst ?_
  | with_reducible refine de_of_dl (dl_list ?_)
  | with_reducible refine de_mkLimits ?_
  | with_reducible refine de_mkClash ?_
  | with_reducible refine de_lenLim ?_)
local macro_rules | `(tactic| walk_at "d2") => `(tactic| first
  | walk_at "d1"
  | with_reducible refine iteT ?_
  | with_reducible refine iteF ?_
  | with_reducible refine ite_f Bool.not_true ?_
  | with_reducible refine ite_t Bool.not_false ?_
  | (with_reducible refine Exists.intro _ (Exists.intro _ (And.intro rfl (And.intro rfl ?_))))
  | (with_reducible refine Exists.intro _ (And.intro rfl ?_))
  | (with_reducible refine .inl (Exists.intro _ (Exists.intro _ (And.intro rfl (And.intro rfl ?_)))))
  | (refine ⟨_, _, _, .inr rfl, rfl, rfl, ?_⟩)
  | (refine ⟨Nat.le_of_ble_eq_true rfl, ?_⟩)
  | (with_reducible refine And.intro rfl ?_)
  | (with_reducible refine And.intro (by walk_at "mul") ?_)
  | (with_reducible refine And.intro (by walk_at "shd") ?_))
local macro_rules | `(tactic| walk_at "dd") => `(tactic| (repeat walk_at "d2"))
local macro_rules | `(tactic| walk_at "set") => `(tactic| simp only [List.set_cons_zero, List.set_cons_succ])
local macro_rules | `(tactic| walk_at "mul") => `(tactic| first
  | exact mul_nd (by assumption) (by assumption) | exact mul_nn (by assumption) (by assumption) | exact mul_dd (by assumption) (by assumption))
local macro_rules | `(tactic| walk_at "shd") => `(tactic| first
  | exact shD_int _ | exact shD_non | exact shD_rat _ | exact shD_tupTab _ _ | with_reducible assumption)
local macro_rules | `(tactic| walk_at "tg") => `(tactic| refine dg_tup ⟨_, rfl, rfl, dgs_cons (dg_name0 rfl (dgs_cons (dg_name0 rfl (dgs_nil ?_))))⟩)
local macro_rules | `(tactic| walk_at "wp") => `(tactic| simp only [wipeD, List.map_cons, List.map_nil, List.set_cons_zero, List.set_cons_succ])
section
variable {P : Program} {w : World} {K : PySem.W.Frag} {mg : Str → Option Value} {base : Heap} {CL CC CB : Addr}
theorem ok_law_keeping (T : Txt K mg CL CC CB) (D : Def K mg "_law_keeping" s_law_keeping) (C_law_tight : Cal P w K mg base "_law_tight" 6 ["_law_limits"] (spD K p_law_tight)) (C_law_minus_bound : Cal P w K mg base "_law_minus_bound" 1 ["_law_one"] (spD K p_law_minus_bound)) (C_law_least : Cal P w K mg base "_law_least" 2 ["_law_one", "_law_other"] (spD K p_law_least)) (C_law_higher : Cal P w K mg base "_law_higher" 2 ["_law_one", "_law_other"] (spD K p_law_higher)) (C_law_share : Cal P w K mg base "_law_share" 4 ["_law_hand_here", "_law_low", "_law_high"] (spH K p_law_share)) (C_law_plus : Cal P w K mg base "_law_plus" 3 ["_law_one", "_law_other"] (spD K p_law_plus)) (C_law_less : Cal P w K mg base "_law_less" 3 ["_law_one", "_law_other"] (spD K p_law_less)) (C_law_far : Cal P w K mg base "_law_far" 5 ["_law_steps", "_law_first", "_law_second"] (spD K p_law_far)) (C_law_added : Cal P w K mg base "_law_added" 4 ["_law_one", "_law_other"] (spD K p_law_added))  :
    Cal P w K mg base "_law_keeping" 7 ["_law_hand_here", "_law_limits", "_law_known_here"] (spH K p_law_keeping) := by
  obtain ⟨f, fd, F, hg⟩ := D
  refine ⟨f, fd, ok_H (k := 6) F sc_law_keeping (fun ds Q h => len_law_keeping h) (fun cdv A outer s H E hr => ⟨_, (pss_cons (ps_set (i := 3) sc_law_keeping.nd rfl (Or.inl rfl) (pe_lst pa_nil))
    (pss_cons (ps_set (i := 4) sc_law_keeping.nd rfl (Or.inl rfl) (pe_cal C_law_tight hr (by decide) rfl (pa_cons (pv 1) pa_nil)))
    (pss_cons (ps_for PassesOwn.never rfl (pi_range1 rfl T.bi.range (pa_cons (pe_len T.bi (pe_ix ix_seq (pv 1) pe_int (fun _ _ => rfl))) pa_nil)) (pg_name (i := 5) sc_law_keeping.nd rfl (Or.inl rfl)) (pss_cons (ps_set (i := 6) sc_law_keeping.nd rfl (Or.inl rfl) (pe_ix ix_seq (pe_ix ix_seq (pv 4) pe_int (fun _ _ => rfl)) (pv 5) (fun _ _ => rfl)))
    (pss_cons (ps_set (i := 7) sc_law_keeping.nd rfl (Or.inl rfl) (pe_cal C_law_minus_bound hr (by decide) rfl (pa_cons (pv 6) pa_nil)))
    (pss_cons (ps_if (PW.pt (pw_and (pt_cmpR op_gt (pv 5) pe_int (nomark _)) (pw_and1 (pt_cmpR op_notN (pe_ix ix_seq (pe_ix ix_seq (pv 1) pe_int (fun _ _ => rfl)) (pe_op op_sub (pv 5) pe_int) (fun _ _ => rfl)) pe_non (nomark _))))) (pss_cons (ps_set (i := 6) sc_law_keeping.nd rfl (Or.inl rfl) (pe_cal C_law_least hr (by decide) rfl (pa_cons (pv 6) (pa_cons (pe_cal C_law_plus hr (by decide) rfl (pa_cons (pe_ix ix_seq (pv 3) (pe_un un_neg pe_int) (fun _ _ => rfl)) (pa_cons (pe_ix ix_seq (pe_ix ix_seq (pv 1) pe_int (fun _ _ => rfl)) (pe_op op_sub (pv 5) pe_int) (fun _ _ => rfl)) pa_nil))) pa_nil))))
    (pss_one (ps_set (i := 7) sc_law_keeping.nd rfl (Or.inl rfl) (pe_cal C_law_higher hr (by decide) rfl (pa_cons (pv 7) (pa_cons (pe_cal C_law_less hr (by decide) rfl (pa_cons (pe_ix ix_seq (pv 3) (pe_un un_neg pe_int) (fun _ _ => rfl)) (pa_cons (pe_ix ix_seq (pe_ix ix_seq (pv 1) pe_int (fun _ _ => rfl)) (pe_op op_sub (pv 5) pe_int) (fun _ _ => rfl)) pa_nil))) pa_nil)))))) pss_nil)
    (pss_cons (ps_for PassesOwn.never rfl (pi_tup (pv 2)) (pg_tup rfl (pgs_cons (pg_name (i := 8) sc_law_keeping.nd rfl (Or.inl rfl)) (pgs_cons (pg_name (i := 9) sc_law_keeping.nd rfl (Or.inl rfl)) pgs_nil))) (pss_one (ps_if (pt_cmpR op_ge (pv 8) (pv 5) (nomark _)) (pss_cons (ps_set (i := 10) sc_law_keeping.nd rfl (Or.inl rfl) (pe_cal C_law_far hr (by decide) rfl (pa_cons (pe_ix ix_seq (pv 1) pe_int (fun _ _ => rfl)) (pa_cons (pv 5) (pa_cons (pv 8) pa_nil)))))
    (pss_cons (ps_set (i := 6) sc_law_keeping.nd rfl (Or.inl rfl) (pe_cal C_law_least hr (by decide) rfl (pa_cons (pv 6) (pa_cons (pe_cal C_law_added hr (by decide) rfl (pa_cons (pv 9) (pa_cons (pv 10) pa_nil))) pa_nil))))
    (pss_one (ps_if (pt_cmpR op_notN (pv 10) pe_non (nomark _)) (pss_one (ps_set (i := 7) sc_law_keeping.nd rfl (Or.inl rfl) (pe_cal C_law_higher hr (by decide) rfl (pa_cons (pv 7) (pa_cons (pe_cal C_law_less hr (by decide) rfl (pa_cons (pv 9) (pa_cons (pv 10) pa_nil))) pa_nil))))) pss_nil)))) pss_nil)))
    (pss_one (ps_expr (pe_bm PySem.F.plainAttrs_list PySem.F.slot_list_append PySem.F.type_list_append mt_append (pv 3) (pa_cons (pe_cal C_law_share hr (by decide) rfl (pa_cons (pv 0) (pa_cons (pv 7) (pa_cons (pv 6) pa_nil)))) pa_nil)))))))))
    (pss_one (ps_ret (pe_tuple T.bi (pv 3))))))), fun G0 H0 l ds Q h => ?_⟩), hg, F.kp, F.binds fun _ _ _ _ _ _ us hl => match us, hl with | [_, _, _], _ => rfl⟩
  try dsimp only [cxOf, Cx.nox, Cx.wish]
  obtain ⟨n, m, st, ks, D, c, rfl, l, gr, kk, c5, nc, k⟩ := h
  change DS _ _ [.hand, _, _, .no, .no, .no, .no, .no, .no, .no, .no] _
  have hn1 := l.n1
  have hn2 := l.n2
  walk_at "dd"
  refine ⟨n, m, st, D, rfl, l, ?_⟩
  walk_at "set"
  generalize Dt.tup (tab (n - 1) (tightS n m st)) = td
  refine ds_seq ?_
  refine ds_forR1 (fun i ρ => ∃ (h : Nat → Rat) (x5 x6 x7 x8 x9 x10 : Sl), Row n m st ks D c h i ∧ ρ = [.hand, .dt (lim n m st), .dt (kn ks), .own (tab i fun k => some (h k)), .dt (.tup [.tup (tab n (ledF n m st)), td]), x5, x6, x7, x8, x9, x10]) ?_
  walk_at "dd"
  refine .inl ⟨_, .inr rfl, ?_⟩
  rw [tab_len]
  walk_at "dd"
  refine ⟨bR_small (by omega) (by omega), ⟨fun _ => 0, _, _, _, _, _, _, ⟨row_zero, fun i hi => absurd hi (Nat.not_lt_zero i)⟩, rfl⟩, ?_, ?_⟩
  · rintro i ρ hi ⟨h, x5, x6, x7, x8, x9, x10, hr', rfl⟩
    have hin : i < n := by omega
    have gi := gr_pow gr (k := i) (by omega)
    have gi1 := gr_pow gr (k := i + 1) (by omega)
    have li := l.up (E := D * 6 ^ i) ⟨6 ^ i, rfl⟩ gi
    have kv : ∀ p ∈ ks, Ni (D * 6 ^ i) c p.2 := fun p hp => (kk.ni p hp).lift ⟨6 ^ i, rfl⟩
    have cn := hr'.cons li kk.st kv hin
    have smL : SmB (ledF n m st i) := gi.sm (li.led hin) (by omega)
    refine dg_name0 rfl ?_
    walk_at "set"
    walk_at "dd"
    refine ⟨_, _, _, .inr rfl, rfl, tab_at (k := i) _ hin rfl, ?_⟩
    walk_at "set"
    walk_at "dd"
    refine ⟨_, rfl, ?_⟩
    walk_at "set"
    refine ds_seqI (fun ρ => ρ = [.hand, .dt (lim n m st), .dt (kn ks), .own (tab i fun k => some (h k)), .dt (.tup [.tup (tab n (ledF n m st)), td]), .dt (.int i), .dt (bd (hiC (frame n m st h i))), .dt (bd (loC (frame n m st h i))), x8, x9, x10]) ?_ ?_
    · walk_at "dd"
      by_cases h0 : 0 < i
      · refine ite_t (decide_eq_true (by omega)) ?_
        walk_at "dd"
        refine ⟨_, _, _, .inr rfl, rfl, tab_at (k := i - 1) _ (by omega) (by omega), ?_⟩
        walk_at "dd"
        rw [isNon_bd]
        cases e : st (i - 1) with
        | none =>
          refine ite_f rfl ?_
          walk_at "dd"
          obtain ⟨e1, e2⟩ := hi_skip (n := n) (m := m) (h := h) h0 e
          rw [e1, e2]
        | some s =>
          have nS : Ni (D * 6 ^ i) 1 s := li.ns (i - 1) s e
          have nH := hr'.ni (i - 1) (by omega)
          have smS := nS.sm gi.pos gi.lt (by omega)
          have smH := nH.sm gi.pos gi.lt (by omega)
          refine ite_t rfl ?_
          walk_at "dd"
          refine ⟨_, _, rfl, tab_last _ h0, ?_⟩
          walk_at "dd"
          refine ⟨_, _, _, .inr rfl, rfl, tab_at (k := i - 1) _ (by omega) (by omega), ?_⟩
          walk_at "dd"
          rw [e]
          refine ⟨h (i - 1), s, rfl, smH, smS, ?_⟩
          walk_at "dd"
          refine ⟨ledF n m st i, some (h (i - 1) + s), rfl, smL, gi.sm (NiB.some (nH.add nS)) (by omega), ?_⟩
          walk_at "set"
          walk_at "dd"
          refine ⟨_, _, rfl, tab_last _ h0, ?_⟩
          walk_at "dd"
          refine ⟨_, _, _, .inr rfl, rfl, tab_at (k := i - 1) _ (by omega) (by omega), ?_⟩
          walk_at "dd"
          rw [e]
          refine ⟨h (i - 1), s, rfl, smH, smS, ?_⟩
          walk_at "dd"
          refine ⟨negB (ledF n m st i), some (h (i - 1) - s), rfl, gi.sm (li.led hin).neg (by omega), gi.sm (NiB.some (nH.sub nS)) (by omega), ?_⟩
          walk_at "set"
          obtain ⟨e1, e2⟩ := hi_step (n := n) (m := m) (h := h) h0 e
          rw [e1, e2]
      · obtain rfl : i = 0 := by omega
        refine ite_f rfl ?_
        refine ite_f rfl ?_
        walk_at "dd"
        rw [hi_frame0, lo_frame0]
    · rintro ρ rfl
      refine ds_seq ?_
      refine ds_forT (fun xs j ρ => ∃ x8 x9 x10, ρ = [.hand, .dt (lim n m st), .dt (kn ks), .own (tab i fun k => some (h k)), .dt (.tup [.tup (tab n (ledF n m st)), td]), .dt (.int i), .dt (bd (hiC (frame n m st h i ++ knC st (ks.take j) i))), .dt (bd (loC (frame n m st h i ++ knC st (ks.take j) i))), x8, x9, x10]) ?_
      refine de_var rfl ⟨_, rfl, ⟨x8, x9, x10, by rw [List.take_zero]; rw [show knC st [] i = [] from rfl, List.append_nil]⟩, ?_, ?_⟩
      · rintro j y ρ hy ⟨x8, x9, x10, rfl⟩
        obtain ⟨p, hp, rfl⟩ := kn_get hy
        have hpm := List.mem_of_getElem? hp
        have hpn := kk.st.2 p hpm
        have niP := kv p hpm
        have niD := li.dist hin hpn
        have smC := hi_mono cn (M := frame n m st h i ++ knC st (ks.take j) i) (frame_sub j) gi (by omega)
        walk_at "tg"
        walk_at "set"
        walk_at "dd"
        by_cases hge : i ≤ p.1
        · refine ite_t (decide_eq_true (by omega)) ?_
          rw [knC_next hp hge, ← List.append_assoc, hi_app, lo_app]
          walk_at "dd"
          refine ⟨n - 1, i, p.1, st, D * 6 ^ i, rfl, hge, by omega, by omega, gi, li.ns, ?_⟩
          walk_at "set"
          walk_at "dd"
          refine ⟨some p.2, _, rfl, gi.sm (NiB.some niP) (by omega), gi.sm niD (by omega), ?_⟩
          walk_at "dd"
          refine ⟨_, _, rfl, smC.1, gi.sm ((NiB.some niP).add niD) (by omega), ?_⟩
          walk_at "set"
          walk_at "dd"
          rw [isNon_bd]
          rw [add_neg]
          cases e : dist st i p.1 with
          | none =>
            refine ite_f rfl ?_
            walk_at "dd"
            rw [show Option.map (fun x => p.2 - x) none = none from rfl, max_none]
            exact ⟨_, _, _, rfl⟩
          | some d =>
            have niD' := niD d e
            refine ite_t rfl ?_
            walk_at "dd"
            refine ⟨p.2, d, rfl, niP.sm gi.pos gi.lt (by omega), niD'.sm gi.pos gi.lt (by omega), ?_⟩
            walk_at "dd"
            refine ⟨_, some (p.2 - d), rfl, smC.2, gi.sm (NiB.some (niP.sub niD')) (by omega), ?_⟩
            walk_at "set"
            exact ⟨_, _, _, rfl⟩
        · refine ite_f (decide_eq_false (by omega)) ?_
          walk_at "dd"
          rw [knC_skip hp hge]
          exact ⟨_, _, _, rfl⟩
      · rintro ρ ⟨x8, x9, x10, rfl⟩
        rw [List.length_map, List.take_length, ← cons_eq]
        refine ds_app rfl (by rw [tab_len]; omega) ?_
        walk_at "dd"
        have cmp := cons_comp l.ps (fun j _ => l.pm j) kk.st nc hin hr'.ok
        have nn := hi_sub cn (M := consOf n m st ks h i) fun _ hx => hx
        refine ⟨_, _, D * 6 ^ i, c + 26 + i, rfl, ?_, by omega, by omega, ?_, nn.2, nn.1, ?_, fun x hx h1 h2 => ?_⟩
        · rw [Nat.mul_assoc, ← Nat.pow_succ]; exact gi1
        · exact lo_none_iff _
        · exact fun a b ea eb => itv_le cmp ea eb
        · walk_at "set"
          rw [ext_some]
          exact ⟨fun j => if j = i then x else h j, _, _, _, _, _, _, hr'.next hx h1 h2, rfl⟩
  · rintro ρ ⟨h, x5, x6, x7, x8, x9, x10, hr', rfl⟩
    rw [show ((n : Nat) : Int).toNat = n from rfl] at *
    walk_at "dd"
    exact k h hr'.ok fun i hi => ((hr'.ni i hi).lift (pow6 D hn2)).mono (by omega)
theorem ok_law_odd_ratio (T : Txt K mg CL CC CB) (D : Def K mg "_law_odd_ratio" s_law_odd_ratio) (C_law_take : Cal P w K mg base "_law_take" 2 ["_law_hand_here", "_law_many_here"] (spH K p_law_take))  :
    Cal P w K mg base "_law_odd_ratio" 3 ["_law_hand_here"] (spH K p_law_odd_ratio) := by
  obtain ⟨f, fd, F, hg⟩ := D
  refine ⟨f, fd, ok_H (k := 2) F sc_law_odd_ratio (fun ds Q h => len_law_odd_ratio h) (fun cdv A outer s H E hr => ⟨_, (pss_one (ps_ret (pe_ix ix_seq (pe_lst (pa_cons pe_int (pa_cons (pe_tup (pa_cons pe_int (pa_cons pe_int pa_nil))) (pa_cons (pe_lst (pa_cons pe_int (pa_cons pe_int pa_nil))) (pa_cons (pe_tup (pa_cons pe_int (pa_cons pe_int pa_nil))) (pa_cons pe_str (pa_cons (pe_tup (pa_cons pe_bl (pa_cons pe_int pa_nil))) (pa_cons (pe_tup (pa_cons pe_int (pa_cons (pe_un un_neg pe_int) pa_nil))) (pa_cons (pe_tup (pa_cons pe_int (pa_cons pe_int pa_nil))) pa_nil))))))))) (pe_cal C_law_take hr (by decide) rfl (pa_cons (pv 0) (pa_cons pe_int pa_nil))) (fun _ _ => rfl)))), fun G0 H0 l ds Q h => ?_⟩), hg, F.kp, F.binds fun _ _ _ _ _ _ us hl => match us, hl with | [_], _ => rfl⟩
  try dsimp only [cxOf, Cx.nox, Cx.wish]
  obtain ⟨rfl, k⟩ := h
  change DS _ _ [.hand] _
  walk_at "dd"
  refine ⟨8, rfl, by decide, by decide, fun t ht0 ht1 => ?_⟩
  have all : ([.int 3, .tup [.int 2, .int 4], .lst [.int 1, .int 2], .tup [.int 1, .int 0], .str "1/2", .tup [.bl true, .int 1], .tup [.int 1, .int (-2)], .tup [.int 0, .int 2]] : List Dt).all (fun d => sh 1 d && !isRt d) = true := by decide +kernel
  obtain ⟨d, e, hd⟩ := at_all (P := fun d => (sh 1 d && !isRt d) = true) (List.all_eq_true.mp all) ht0 ht1
  obtain ⟨h1, h2⟩ := Bool.and_eq_true_iff.mp hd
  exact ⟨_, _, _, .inl rfl, rfl, e, k d h1 (by simpa using h2)⟩
theorem ok_law_spoilt (T : Txt K mg CL CC CB) (D : Def K mg "_law_spoilt" s_law_spoilt) (C_law_take : Cal P w K mg base "_law_take" 2 ["_law_hand_here", "_law_many_here"] (spH K p_law_take)) (C_law_ratio : Cal P w K mg base "_law_ratio" 2 ["_law_top", "_law_bottom"] (spD K p_law_ratio)) (C_law_odd_ratio : Cal P w K mg base "_law_odd_ratio" 3 ["_law_hand_here"] (spH K p_law_odd_ratio))  :
    Cal P w K mg base "_law_spoilt" 4 ["_law_hand_here", "_law_many_here", "_law_known_here"] (spH K p_law_spoilt) := by
  obtain ⟨f, fd, F, hg⟩ := D
  refine ⟨f, fd, ok_H (k := 3) F sc_law_spoilt (fun ds Q h => len_law_spoilt h) (fun cdv A outer s H E hr => ⟨_, (pss_cons (ps_setLc (i := 3) (own := [("_law_entry", 6)]) (g := gName 6) rfl sc_law_spoilt.nd rfl rfl (sw_true rfl rfl rfl (by decide +kernel)) (pi_tup (pv 2)) (blkOk_by (own := [("_law_entry", 6)]) (N := ["_law_hand_here", "_law_many_here", "_law_known_here", "_law_row", "_law_place", "_law_turn", "_law_entry"]) (sc := defScope s_law_spoilt) (by decide +kernel)) (fun _ _ _ _ _ => (pg_name (i := 6) sc_law_spoilt.nd rfl (Or.inl rfl))) (fun _ _ _ _ _ => pts_nil) (fun _ _ _ _ _ => (pe_listC (K := K) rfl T.bi (pv 6))))
    (pss_cons (ps_set (i := 4) sc_law_spoilt.nd rfl (Or.inl rfl) (pe_cal C_law_take hr (by decide) rfl (pa_cons (pv 0) (pa_cons (pe_op op_addA (pe_len T.bi (pv 3)) pe_int) pa_nil))))
    (pss_cons (ps_set (i := 5) sc_law_spoilt.nd rfl (Or.inl rfl) (pe_cal C_law_take hr (by decide) rfl (pa_cons (pv 0) (pa_cons pe_int pa_nil))))
    (pss_cons (ps_if (pt_cmpR (op_eqD hr.units) (pv 5) pe_int (nomark _)) (pss_one (ps_ret (pe_ix ix_seq (pe_lst (pa_cons pe_non (pa_cons pe_str (pa_cons pe_int (pa_cons pe_str pa_nil))))) (pe_cal C_law_take hr (by decide) rfl (pa_cons (pv 0) (pa_cons pe_int pa_nil))) (fun _ _ => rfl)))) pss_nil)
    (pss_cons (ps_if (pt_cmpR (op_eqD hr.units) (pv 5) pe_int (nomark _)) (pss_one (ps_ret (pe_op op_addA (pv 3) (pe_op op_mulA (pe_lst (pa_cons (pe_tup (pa_cons pe_int (pa_cons (pe_tup (pa_cons pe_int (pa_cons pe_int pa_nil))) pa_nil))) pa_nil)) (pe_op op_sub (pe_op op_addA (pv 1) pe_int) (pe_len T.bi (pv 3))))))) pss_nil)
    (pss_cons (ps_set (i := 6) sc_law_spoilt.nd rfl (Or.inl rfl) (pe_lst (pa_cons (pe_op op_sub (pe_cal C_law_take hr (by decide) rfl (pa_cons (pv 0) (pa_cons (pe_op op_addA (pv 1) pe_int) pa_nil))) pe_int) (pa_cons (pe_cal C_law_ratio hr (by decide) rfl (pa_cons (pe_op op_sub (pe_cal C_law_take hr (by decide) rfl (pa_cons (pv 0) (pa_cons pe_int pa_nil))) pe_int) (pa_cons pe_int pa_nil))) pa_nil))))
    (pss_cons (ps_if (pt_cmpR (op_eqD hr.units) (pv 5) pe_int (nomark _)) (pss_one (ps_asg (pe_cal C_law_odd_ratio hr (by decide) rfl (pa_cons (pv 0) pa_nil)) (pg_sub (pv 6) pe_int set_list))) pss_nil)
    (pss_cons (ps_if (pt_cmpR (op_eqD hr.units) (pv 5) pe_int (nomark _)) (pss_one (ps_set (i := 6) sc_law_spoilt.nd rfl (Or.inl rfl) (pe_ix ix_seq (pe_lst (pa_cons pe_non (pa_cons pe_int (pa_cons (pe_op op_addA (pv 6) (pe_lst (pa_cons pe_int pa_nil))) (pa_cons (pe_slice sl_any (pv 6) po_none (po_some pe_int)) (pa_cons (pe_tup (pa_cons pe_bl (pa_cons (pe_tup (pa_cons pe_int (pa_cons pe_int pa_nil))) pa_nil))) (pa_cons (pe_lst (pa_cons pe_non (pa_cons (pe_tup (pa_cons pe_int (pa_cons pe_int pa_nil))) pa_nil))) (pa_cons pe_str pa_nil)))))))) (pe_cal C_law_take hr (by decide) rfl (pa_cons (pv 0) (pa_cons pe_int pa_nil))) (fun _ _ => rfl)))) pss_nil)
    (pss_cons (ps_if (pt_cmpR (op_eqD hr.units) (pv 5) pe_int (nomark _)) (pss_one (ps_ret (pe_op op_addA (pe_op op_addA (pe_op op_addA (pe_slice sl_any (pv 3) po_none (po_some (pv 4))) (pe_lst (pa_cons (pe_lst (pa_cons (pv 1) (pa_cons (pe_tup (pa_cons pe_int (pa_cons pe_int pa_nil))) pa_nil))) pa_nil))) (pe_slice sl_any (pv 3) (po_some (pv 4)) po_none)) (pe_lst (pa_cons pe_non pa_nil))))) pss_nil)
    (pss_cons (ps_if (PW.pt (pw_and (pt_cmpR (op_eqD hr.units) (pv 5) pe_int (nomark _)) (pw_and1 (pt_cmpR (op_neD hr.units) (pv 3) (pe_lst pa_nil) (nomark _))))) (pss_one (ps_ret (pe_op op_addA (pv 3) (pe_lst (pa_cons (pe_ix ix_seq (pv 3) pe_int (fun _ _ => rfl)) pa_nil))))) pss_nil)
    (pss_one (ps_ret (pe_op op_addA (pe_op op_addA (pe_slice sl_any (pv 3) po_none (po_some (pv 4))) (pe_lst (pa_cons (pv 6) pa_nil))) (pe_slice sl_any (pv 3) (po_some (pv 4)) po_none)))))))))))))), fun G0 H0 l ds Q h => ?_⟩), hg, F.kp, F.binds fun _ _ _ _ _ _ us hl => match us, hl with | [_, _, _], _ => rfl⟩
  try dsimp only [cxOf, Cx.nox, Cx.wish]
  obtain ⟨n, ks, D, rfl, hn, hks, hD, hkv, k⟩ := h
  change DS _ _ [.hand, _, _, .no, .no, .no, .no] _
  have fin : ∀ {xs : List Dt}, shAll 9 xs = true → Gs D xs → Q (.lst xs) := fun {xs} h g => k _ (by rw [sh]; exact h) (fun ys e => by cases e; exact g) fun ys e => by cases e
  refine ds_seq (ds_own rfl (dl_lcT hw_name (fun xs i acc => acc.length = i ∧ shAll 4 acc = true ∧ Gs D acc) ?_))
  refine de_var rfl ⟨_, rfl, ⟨rfl, rfl, fun x hx => by cases hx⟩, ?_, ?_⟩
  · rintro i x acc hx ⟨h1, h2, h3⟩
    obtain ⟨p, hp, rfl⟩ := kn_get hx
    have hi : i < ks.length := (List.getElem?_eq_some_iff.mp hp).1
    refine dlt_yes ?_
    refine dg_name0 rfl ?_
    walk_at "wp"
    walk_at "dd"
    refine ⟨_, .inr rfl, ?_⟩
    exact ⟨by omega, by rw [List.length_append, h1]; rfl, shAll_app h2 (shAll_one (by simp [sh, shAll])), gs_app h3 (gs_one (ge_lst (gv_rat (hkv p (List.mem_of_getElem? hp)))))⟩
  rintro xs ⟨hl, hx, hg⟩
  rw [List.length_map] at hl
  have hx9 : shAll 9 xs = true := shAll_mono (by decide) hx
  refine ds_freeze (i := 3) rfl ?_
  walk_at "set"
  walk_at "dd"
  refine .inl ⟨_, .inl rfl, ?_⟩
  walk_at "dd"
  refine ⟨_, rfl, by omega, by omega, fun pl hp0 hp1 => ?_⟩
  walk_at "set"
  walk_at "dd"
  refine ⟨7, rfl, by decide, by decide, fun t ht0 ht1 => ?_⟩
  walk_at "set"
  walk_at "dd"
  rw [deq_int]
  by_cases e0 : t = 0
  · refine ite_t (by rw [e0]; rfl) ?_
    walk_at "dd"
    refine ⟨4, rfl, by decide, by decide, fun r hr0 hr1 => ?_⟩
    obtain ⟨d, e, hd⟩ := at_all (xs := [.non, .str "", .int 3, .str "ab"]) (P := fun d => sh 1 d = true ∧ seqOf d = none ∧ ∀ xs, d ≠ .tup xs) (by
      intro x hx
      simp only [List.mem_cons, List.not_mem_nil, or_false] at hx
      rcases hx with rfl | rfl | rfl | rfl <;> exact ⟨by decide +kernel, rfl, fun xs z => by cases z⟩) hr0 hr1
    exact ⟨_, _, _, .inl rfl, rfl, e, k d (sh_mono (by decide) hd.1) (fun ys z => by rw [hd.2.1] at z; cases z) hd.2.2⟩
  refine ite_f (by simpa using e0) ?_
  walk_at "dd"
  rw [deq_int]
  by_cases e1 : t = 1
  · refine ite_t (by rw [e1]; rfl) ?_
    walk_at "dd"
    refine .inl ⟨_, .inl rfl, ?_⟩
    walk_at "dd"
    refine .inr ⟨_, _, rfl, rfl, by omega, by omega, by decide, ?_⟩
    refine .inr (.inr ⟨_, _, rfl, rfl, ?_, ?_⟩)
    · have : ∀ (k : Nat) (x : Dt), (List.replicate k [x]).flatten.length = k := fun k x => by
        rw [List.length_flatten, List.map_replicate, List.sum_replicate_nat]
        simp
      rw [this]
      omega
    · exact fin (shAll_app hx9 (shAll_rep (by decide +kernel))) (gs_app hg (gs_rep (gs_one (ge_tup gv_0))))
  refine ite_f (by simpa using e1) (ds_next ?_)
  refine ds_seqI (fun ρ => ∃ (a : Int) (dq : Dt), sh 1 dq = true ∧ Gv D dq ∧ ρ = [.hand, .dt (.int n), .dt (kn ks), .dt (.lst xs), .dt (.int pl), .dt (.int t), .own [.int a, dq]]) ?_ ?_
  · walk_at "dd"
    refine ⟨_, rfl, by omega, by omega, fun a ha0 ha1 => ?_⟩
    walk_at "dd"
    refine ⟨9, rfl, by decide, by decide, fun b hb0 hb1 => ?_⟩
    walk_at "dd"
    refine ⟨_, _, rfl, by decide, sm8 (by decide), ?_⟩
    walk_at "dd"
    walk_at "set"
    exact ⟨_, _, sh_rat 0 _, gv_rat ((Ni.of_mk (by decide) hD (by omega)).mono (by decide)), rfl⟩
  rintro ρ ⟨a, dq, hdq, hgq, rfl⟩
  refine ds_seqI (fun ρ => ∃ d, sh 1 d = true ∧ Gv D d ∧ ρ = [.hand, .dt (.int n), .dt (kn ks), .dt (.lst xs), .dt (.int pl), .dt (.int t), .own [.int a, d]]) ?_ ?_
  · walk_at "dd"
    rw [deq_int]
    by_cases e2 : t = 2
    · refine ite_t (by rw [e2]; rfl) ?_
      walk_at "dd"
      refine ⟨rfl, fun d hd hd2 => ?_⟩
      walk_at "dd"
      exact ⟨d, hd, gv_no hd2, rfl⟩
    · refine ite_f (by simpa using e2) ?_
      walk_at "dd"
      exact ⟨dq, hdq, hgq, rfl⟩
  rintro ρ ⟨d, hd, hgd, rfl⟩
  refine ds_freeze (i := 6) rfl ?_
  walk_at "set"
  have hd4 : sh 4 d = true := sh_mono (by decide) hd
  refine ds_seqI (fun ρ => ∃ d, sh 5 d = true ∧ Ge D d ∧ ρ = [.hand, .dt (.int n), .dt (kn ks), .dt (.lst xs), .dt (.int pl), .dt (.int t), .dt d]) ?_ ?_
  · walk_at "dd"
    rw [deq_int]
    by_cases e3 : t = 3
    · refine ite_t (by rw [e3]; rfl) ?_
      walk_at "dd"
      refine .inr (.inr ⟨_, _, rfl, rfl, Nat.le_of_ble_eq_true rfl, ?_⟩)
      walk_at "dd"
      refine .inr ⟨_, rfl, ?_⟩
      walk_at "dd"
      refine ⟨7, rfl, by decide, by decide, fun r hr0 hr1 => ?_⟩
      obtain ⟨e, he, hsh⟩ := at_all (xs := [.non, .int 7, .lst ([.int a, d] ++ [.int 0]), .lst (cutD [.int a, d] none (some 1)), .tup [.bl true, .tup [.int 1, .int 1]], .lst [.non, .tup [.int 0, .int 1]], .str "ab"]) (P := fun d => sh 5 d = true ∧ Ge D d)
        (by
          have q1 : sh 5 (.lst ([.int a, d] ++ [.int 0])) = true := by
            rw [sh]
            exact shAll_app (by simp [shAll, sh, hd4]) (by simp [shAll, sh])
          have q2 : sh 5 (.lst (cutD [.int a, d] none (some 1))) = true := by
            rw [sh]
            exact shAll_cut (by simp [shAll, sh, hd4])
          have q3 : sh 5 (.str "ab") = true := by decide +kernel
          intro x hx
          simp only [List.mem_cons, List.not_mem_nil, or_false] at hx
          rcases hx with rfl | rfl | rfl | rfl | rfl | rfl | rfl
          · exact ⟨by simp [sh], ge_none rfl⟩
          · exact ⟨by simp [sh], ge_none rfl⟩
          · exact ⟨q1, ge_none rfl⟩
          · exact ⟨q2, ge_none rfl⟩
          · exact ⟨by simp [sh, shAll], ge_tup gv_1⟩
          · exact ⟨by simp [sh, shAll], ge_lst gv_0⟩
          · exact ⟨q3, ge_none rfl⟩) hr0 hr1
      refine ⟨_, _, _, .inl rfl, rfl, he, ?_⟩
      walk_at "set"
      exact ⟨e, hsh.1, hsh.2, rfl⟩
    · refine ite_f (by simpa using e3) ?_
      walk_at "dd"
      exact ⟨_, by rw [sh]; simp [shAll, sh, hd4], ge_lst hgd, rfl⟩
  rintro ρ ⟨d, hd, hgd, rfl⟩
  have hd9 : sh 9 d = true := sh_mono (by decide) hd
  have c1 : ∀ lo hi, shAll 9 (cutD xs lo hi) = true := fun lo hi => shAll_cut hx9
  have c2 : ∀ lo hi, (cutD xs lo hi).length ≤ 24 := fun lo hi => Nat.le_trans cut_len (by omega)
  walk_at "dd"
  rw [deq_int]
  by_cases e5 : t = 5
  · refine ite_t (by rw [e5]; rfl) ?_
    walk_at "dd"
    refine .inr ⟨_, rfl, ?_⟩
    walk_at "dd"
    refine .inr (.inr ⟨_, _, rfl, rfl, ?_, ?_⟩)
    · have := c2 none (some pl)
      show _ + 1 ≤ _
      omega
    walk_at "dd"
    refine .inr ⟨_, rfl, ?_⟩
    refine .inr (.inr ⟨_, _, rfl, rfl, ?_, ?_⟩)
    · have := c2 none (some pl)
      have := c2 (some pl) none
      rw [List.length_append]
      show _ + 1 + _ ≤ _
      omega
    walk_at "dd"
    refine .inr (.inr ⟨_, _, rfl, rfl, ?_, ?_⟩)
    · have := c2 none (some pl)
      have := c2 (some pl) none
      rw [List.length_append, List.length_append]
      show _ + 1 + _ + 1 ≤ _
      omega
    exact fin (shAll_app (shAll_app (shAll_app (c1 _ _) (by simp [shAll, sh])) (c1 _ _)) (by simp [shAll, sh])) (gs_app (gs_app (gs_app (gs_cut hg) (gs_one (ge_lst gv_0))) (gs_cut hg)) (gs_one (ge_none rfl)))
  refine ite_f (by simpa using e5) (ds_next ?_)
  refine ds_seqI (fun ρ => ρ = [.hand, .dt (.int n), .dt (kn ks), .dt (.lst xs), .dt (.int pl), .dt (.int t), .dt d]) ?_ ?_
  · walk_at "dd"
    rw [deq_int]
    by_cases e6 : t = 6
    · refine ite_t (by rw [e6]; rfl) ?_
      walk_at "dd"
      refine ⟨⟨5, by decide, by rw [sh]; exact hx⟩, ⟨1, by decide, by simp [sh, shAll]⟩, ?_⟩
      walk_at "dd"
      rw [lst_ne]
      cases em : xs.isEmpty with
      | true =>
        refine ite_f rfl ?_
        walk_at "dd"
        rfl
      | false =>
        refine ite_t rfl ?_
        walk_at "dd"
        have hpos : 0 < xs.length := by
          cases xs with
          | nil => cases em
          | cons _ _ => exact Nat.succ_pos _
        obtain ⟨e, he, hsh⟩ := at_all (i := 0) (P := fun x => sh 9 x = true ∧ Ge D x) (fun x hx => ⟨shD_mem hx9 hx, hg x hx⟩) (by decide) (by omega)
        refine ⟨_, _, _, .inl rfl, rfl, he, ?_⟩
        walk_at "dd"
        refine .inr (.inr ⟨_, _, rfl, rfl, ?_, ?_⟩)
        · show _ + 1 ≤ _
          omega
        exact fin (shAll_app hx9 (shAll_one hsh.1)) (gs_app hg (gs_one hsh.2))
    · refine ite_f (by simpa using e6) ?_
      refine ite_f rfl ?_
      walk_at "dd"
      rfl
  rintro ρ rfl
  walk_at "dd"
  refine .inr ⟨_, rfl, ?_⟩
  walk_at "dd"
  refine .inr (.inr ⟨_, _, rfl, rfl, ?_, ?_⟩)
  · have := c2 none (some pl)
    show _ + 1 ≤ _
    omega
  walk_at "dd"
  refine .inr ⟨_, rfl, ?_⟩
  refine .inr (.inr ⟨_, _, rfl, rfl, ?_, ?_⟩)
  · have := c2 none (some pl)
    have := c2 (some pl) none
    rw [List.length_append]
    show _ + 1 + _ ≤ _
    omega
  exact fin (shAll_app (shAll_app (c1 _ _) (shAll_one hd9)) (c1 _ _)) (gs_app (gs_app (gs_cut hg) (gs_one hgd)) (gs_cut hg))
end
end K20
/-! Ex: the program's own exception, made through super().__init__(..) over ValueError. -/
namespace PySem
namespace BadX
open PySem.W PySem.Calls PyProof.Rows PySem.HandSPX
def iA : Arguments := { posonlyargs := [], args := [{ arg := "self", annotation := none, pos := ⟨17, 17, 17, 21⟩ }, { arg := "index", annotation := none, pos := ⟨17, 23, 17, 28⟩ }, { arg := "what", annotation := none, pos := ⟨17, 30, 17, 34⟩ }], vararg := none, kwonlyargs := [], kw_defaults := [], kwarg := none, defaults := [] }
def iB : List Stmt := [
  .Expr (.Call (.Attribute (.Call (.Name "super" ⟨18, 8, 18, 13⟩) [] [] ⟨18, 8, 18, 15⟩) "__init__" ⟨18, 8, 18, 24⟩) [.Constant (.str "values") 0 ⟨18, 25, 18, 33⟩, .Name "index" ⟨18, 35, 18, 40⟩, .Name "what" ⟨18, 42, 18, 46⟩] [] ⟨18, 8, 18, 47⟩) ⟨18, 8, 18, 47⟩,
  .Assign [.Attribute (.Name "self" ⟨19, 8, 19, 12⟩) "index" ⟨19, 8, 19, 18⟩] (.Name "index" ⟨19, 21, 19, 26⟩) ⟨19, 8, 19, 26⟩,
  .Assign [.Attribute (.Name "self" ⟨20, 8, 20, 12⟩) "what" ⟨20, 8, 20, 17⟩] (.Name "what" ⟨20, 20, 20, 24⟩) ⟨20, 8, 20, 24⟩]
def iS : Scope := { kind := .function, names := [(PySem.Str.ofString "self", .local), (PySem.Str.ofString "index", .local), (PySem.Str.ofString "what", .local), (PySem.Str.ofString "__class__", .free), (PySem.Str.ofString "super", .globalImplicit)], isGenerator := false, isCoroutine := false, more := [] }
structure BadTxt (P : Program) (K : Frag) (mg : Str → Option Value) (C fI : Addr) : Prop where
  gC : mg "BadValues" = some (.ref C)
  cls : ∃ nm q N bs bm sn sub ab col dd k0 k1 k2 k3 k5, K.lookup C = some (excClassObj nm q C N bs bm true sn sub ab col dd k0 k1 k2 k3 k5 "ValueError.__new__") ∧ refsVE bm = true
  sa : findIn K (.ref C) "__setattr__" = some (some (.builtin "object.__setattr__"))
  ga : findIn K (.ref C) "__getattribute__" = some (some (.builtin "BaseException.__getattribute__"))
  gg : findIn K (.ref C) "__getattr__" = some none
  noI : findIn K (.ref C) "index" = some none
  noW : findIn K (.ref C) "what" = some none
  iC : findIn K (.ref C) "__init__" = some (some (.ref fI))
  tC : typeIn K (.ref fI) = some (.type "function")
  kC : keepIn K (.ref C) = true
  exC : subIn K (.ref C) (.type "BaseException") = some true
  tyC : typeIn K (.ref C) = some (.type "type")
  hdC : hasDictIn K C = true
  su : ks_superIn K C C "__init__" = some (some (.builtin "ValueError.__init__"))
  sv : subIn K (.ref C) (.type "ValueError") = some true
  sC : mroIn K C (.ref C) = some true
  op : nsIn K cStatics "thirdparty.any" = some none
  sup : mg "super" = none
  htop : (P.main.scope.names.lookup ("super" : Str)).isSome = false
  fn : ∃ (oc : Value) (od : Option Addr) (doc pm : Value) (an : Option Addr) (cda : Addr) (ct : Value) (cc : Addr) (osl : Array (Option Value)) ,
    K.lookup fI = some ⟨oc, od, .func (ksFn "__init__" "BadValues.__init__" iA iB iS .none .none doc pm an (.ref cda) ct cc), osl⟩ ∧ codeIn K (.ref cda) "BadValues.__init__" = true ∧
    (∃ cl cld csl, K.lookup cc = some ⟨cl, cld, .cell (some (.ref C)), csl⟩) ∧ ∃ ccl cdd ccs vs file tf, K.lookup cda = some ⟨ccl, cdd, .fields vs, ccs⟩ ∧ vs[2]? = some (.str file tf) ∧ ((P.main.file : Str) == file) = true
theorem one_size3 (a b c : Value) : [a, b, c].length ≤ sizeLine := by
  rw [sizeLine_eq]
  exact (by decide : 3 ≤ 16777216)
theorem two_size (a b : Value) : [a, b].length ≤ sizeLine := by
  rw [sizeLine_eq]
  exact (by decide : 2 ≤ 16777216)
theorem kept_but {K : Frag} {h h' : Heap} {x : Addr} (X : K.In h) (hx : K.lookup x = none) (k : ∀ b o, b ≠ x → h.get? b = some o → h'.get? b = some o) : K.In h' := fun a o e =>
  k a o (fun z => by rw [z, hx] at e; cases e) (X a o e)
/-- what super() and the built-ins want of the heap -/
structure Ground (mg : Str → Option Value) (h : Heap) : Prop where
  g : h.Ns mainGlobals mg
  b : ∃ mb, h.Ns builtinsNs mb ∧ ∀ x : Str, x ≠ "__name__" → mb x = bootBuiltins x
  nolimit : h.NoLimit
theorem Ground.keeps {mg : Str → Option Value} {h h' : Heap} (G : Ground mg h) (k : ∀ b o, h.get? b = some o → h'.get? b = some o) : Ground mg h' :=
  ⟨G.g.keeps k, let ⟨mb, q1, q2⟩ := G.b; ⟨mb, q1.keeps k, q2⟩, G.nolimit.keeps k⟩
/-- what __init__ leaves of a fresh exception at x -/
structure InitEnd (h h' : Heap) (x C dx t1 : Addr) (v1 v2 : Value) : Prop where
  keep : ∀ b o, b ≠ x → h.get? b = some o → h'.get? b = some o
  obj : h'.get? x = some { cls := .ref C, dict := some dx, data := .fields #[.ref t1, .none, .none, .none, .bool false, .none] }
  dbig : h.objs.size ≤ dx
  dne : dx ≠ x
  ns : h'.Ns1 dx (fun y => if y = "what" then some v2 else if y = "index" then some v1 else none)
section
variable {prog : Program} {w : World} {A : Around} {E : Value → Shared → Prop} {h : Heap} {g : Array GenState} {d : Drawn} {t : Nat} {os : OsState}
/-- the bound __init__ of ValueError called -/
theorem call_mw {u e C t0 : Addr} {nm q : Str} {N : Addr} {bs bm : List Value} {hdct : Bool} {sn : List Str} {sub : List Value} {ab : Bool} {col : Option Bool} {dd : Option Addr} {k0 k1 k2 k3 k5 : Option Value} {rest : List Value} {Q : Value → Shared → Prop}
    (hC : h.get? C = some (excClassObj nm q C N bs bm hdct sn sub ab col dd k0 k1 k2 k3 k5 "ValueError.__new__")) (he : h.get? e = some (excO C t0)) (hu : h.get? u = some (kxs_mw "ValueError.__init__" e)) (hrest : rest.length ≤ sizeLine)
    (hq : ∀ h' t1, (∀ b o, b ≠ e → h.get? b = some o → h'.get? b = some o) → h'.get? e = some (excO C t1) → Q .none ⟨h', g, d, t, os⟩) :
    wpAny (model prog w) A (call (.ref u) rest) Q E ⟨h, g, d, t, os⟩ := by
  refine wpAny_call (codeAny_of_tree ?_)
  show wpAny _ A.in1 (callAny (.ref u) ⟨rest, []⟩) _ _ _
  simp only [callAny]
  refine wpAny_bind (wpAny_load hu ?_)
  simp only [kxs_mw, show (Value.type "method-wrapper" == Value.type "method" || Value.type "method-wrapper" == Value.type "builtin_function_or_method" || Value.type "method-wrapper" == Value.type "method-wrapper") = true by decide, if_true]
  refine W.KFB.if_so (by decide) ?_
  refine wpAny_bind (check_bound_init F.excBase_ValueError.toExcCallFacts hC he rfl ?_)
  refine wpAny_bind (wpAny_pure (wpAny_pure ?_))
  refine ⟨plainId_quiet F.excBase_ValueError.init.plain _, codeAny_builtin F.excBase_ValueError.initEntry ?_⟩
  exact exc_init_tree (cls := .ref C) (t0 := t0) (dv := none) (c2 := .none) (c3 := .none) (b4 := .bool false) he hrest fun h' k e' _ => hq h' h.objs.size k e'
end
section
variable {M : Model} {A : Around} {E : Value → Shared → Prop} {s : Shared}
theorem callWith_mw {i : String} {u x : Addr} {pos : Pos} {env : Env} {e : Expr} {rest : List Expr} {Q : Value → Shared → Prop}
    (h : wpAny M A (spliced (backTo pos (starEach (e :: rest) env))) (fun vs s₁ => KxsAt i u x s₁.heap ∧ wpAny M A (call (.ref u) vs) Q E s₁) E s)
    (he : starEach (e :: rest) env = (false, eval e env) :: starEach rest env := by rfl) (hplain : (backTo pos (starEach rest env)).any (·.1) = false := by rfl) :
    wpAny M A (callWith pos (.ref u) [] (backTo pos (starEach (e :: rest) env)) []) Q E s := by
  rw [he] at h ⊢
  refine kxs_callWith (i := i) (x := x) (by show (false || (backTo pos (starEach rest env)).any (·.1)) = false; rw [hplain]; rfl) ?_
  exact evalArgs_plain h
end
section
variable {prog : Program} {w : World} {A : Around} {E : Value → Shared → Prop} {R : Result → Shared → Prop} {s : Shared} {K : Frag} {mg : Str → Option Value} {C fI : Addr}
theorem bad_init (T : BadTxt prog K mg C fI) {x t0 : Addr} {v1 v2 : Value} (X : K.In s.heap) (G : Ground mg s.heap) (hx : s.heap.get? x = some (excO C t0)) (hnx : K.lookup x = none) (hroom : A.depth < recursionLimit)
    (hq : ∀ h' tk dx t1, InitEnd s.heap h' x C dx t1 v1 v2 → R (.ok (.ret .none)) { s with heap := h', toks := tk }) :
    codeAny (model prog w) A (.call (.ref fI) ⟨[.ref x, v1, v2], []⟩) R s := by
  obtain ⟨oc, od, doc, pm, an, cda, ct, cc, osl, ho, hcd, ⟨cl, cld, csl, hcell⟩, ccl, cdd, ccs, vs, file, tf, hcode, hvs, hfile⟩ := T.fn
  obtain ⟨nm, q, N, bs, bm, sn, sub, ab, col, dd, k0, k1, k2, k3, k5, hC, hbm⟩ := T.cls
  have hcl : clsIn K C = some { name := nm, bases := bs, mro := .ref C :: bm, ns := N, qualname := q, hasDict := true, slotNames := sn, subclasses := sub, abstract := ab, collection := col, hasDel := false } := by unfold clsIn; rw [hC] <;> rfl
  refine ks_codeAny_call_defAt (fd := ksFn "__init__" "BadValues.__init__" iA iB iS .none .none doc pm an (.ref cda) ct cc) (binds := [("self", .ref x), ("index", v1), ("what", v2)])
    hroom (X _ _ ho) rfl G.nolimit (codeRec_of X hcd) rfl (BindsTo.of_eq (by first | rfl | with_unfolding_all rfl)) (show ∀ x ∈ iS.names, x.2 ≠ .cell by decide) (locs rfl) (fun h₁ hns keep => ?_) rfl rfl rfl
  obtain ⟨hp, gn, dr, tk, os⟩ := s
  have X₁ : K.In h₁ := X.keeps keep
  have G₁ := G.keeps keep
  have hx₁ := keep _ _ hx
  have hxL : hp.objs.size ≠ x := Nat.ne_of_gt (Heap.lt_size hx)
  have z : hp.objs.size < h₁.objs.size := hns.lt
  have I₁ : InstAt h₁ x (excO C t0) C none := ⟨hx₁, rfl, rfl, trivial⟩
  show _root_.PySem.wpAt _ _ _ (execs (_ :: _) _) _ _ _
  refine ks_wpAt_execs_cons (ks_wpAt_Expr_any (ks_wpAt_MethodCall ?_))
  obtain ⟨mb, gb1, gb2⟩ := G₁.b
  refine ks_wpAt_super_base (env := ksEnv "BadValues.__init__" iS hp.objs.size fI (.ref cda) cc) rfl rfl (by decide) rfl (X₁ _ _ ho) rfl rfl rfl (X₁ _ _ hcode) rfl hvs hfile T.htop ?_
  refine ks_loadName_global rfl rfl (loadGlobal_builtin (env := ksEnv "BadValues.__init__" iS hp.objs.size fI (.ref cda) cc) G₁.g T.sup gb1 ((gb2 _ (by decide)).trans (show bootBuiltins "super" = some (.type "super") by decide +kernel)) ⟨rfl, ?_⟩)
  refine wpAny_loadName_free rfl rfl rfl ⟨_, X₁ _ _ hcell, rfl⟩ ?_
  refine wpAny_loadName_local (v := .ref x) rfl rfl hns (by first | rfl | with_unfolding_all rfl) ?_
  refine ks_wpAny_isType_cls (X₁ _ _ hC) rfl ⟨rfl, ?_⟩
  refine ks_wpAny_call_super (X₁ _ _ hC) rfl hx₁ rfl (fun c e => by cases e) (looks_mroIn X₁ T.sC) (fun h₂ hso keep2 => ?_)
  have X₂ : K.In h₂ := X₁.keeps keep2
  have hx₂ := keep2 _ _ hx₁
  have hns₂ := hns.keeps keep2
  have I₂ : InstAt h₂ x (excO C t0) C none := ⟨hx₂, rfl, rfl, trivial⟩
  have su := T.su
  unfold ks_superIn at su
  rw [hcl] at su
  have hmro : Looks (model prog w) h₂ (mroOf (.ref C)) (.ref C :: bm) := fun A Q E s k q => wpAny_bind ((looks_clsIn X₂ hcl) A _ E s k (wpAny_pure q))
  refine kxs_getMethod kxs_ValueError hso (looks_opaque X₂ T.op) hmro rfl X₂ su (I₂.type.andThen (looks_subIn X₂ T.sv)) (ks_ne X₂ I₂ hcl) (by decide) ?_
  have keep3 : ∀ b o, h₂.get? b = some o → (h₂.push (kxs_mw "ValueError.__init__" x)).get? b = some o := fun b o e => Heap.get?_push_of_some _ e
  have hmw : (h₂.push (kxs_mw "ValueError.__init__" x)).get? h₂.objs.size = some (kxs_mw "ValueError.__init__" x) := Heap.get?_push_at rfl rfl
  generalize h₂.push (kxs_mw "ValueError.__init__" x) = h₃ at keep3 hmw ⊢
  have X₃ : K.In h₃ := X₂.keeps keep3
  have hx₃ := keep3 _ _ hx₂
  have hns₃ := hns₂.keeps keep3
  refine callWith_mw (i := "ValueError.__init__") (x := x) ?_
  refine spliced_more (wpAny_Constant_str ?_)
  refine spliced_more (wpAny_Name (wpAny_loadName_local (v := v1) rfl rfl hns₃ (by first | rfl | with_unfolding_all rfl) ?_) (by decide))
  refine spliced_more (wpAny_Name (wpAny_loadName_local (v := v2) rfl rfl hns₃ (by first | rfl | with_unfolding_all rfl) ?_) (by decide))
  refine spliced_none ⟨hmw, ?_⟩
  refine call_mw (X₃ _ _ hC) hx₃ hmw (one_size3 _ _ _) (fun h₄ t1 keep4 hx₄ => ?_)
  have X₄ : K.In h₄ := kept_but X₃ hnx keep4
  have all4 : ∀ b o, b ≠ x → hp.get? b = some o → h₄.get? b = some o := fun b o hb e => keep4 b o hb (keep3 b o (keep2 b o (keep b o e)))
  have hns₄ : h₄.Ns hp.objs.size (fun y => ([("self", Value.ref x), ("index", v1), ("what", v2)] : List (Str × Value)).reverse.lookup y) := by
    obtain ⟨o, es, ep, e1, e2⟩ := hns₃
    exact ⟨o, es, ep, keep4 _ _ hxL e1, e2⟩
  refine wpAt_of_wpAny ?_
  refine wpAny_execs_cons (plainObj_wpAny_Assign_Attribute ?_)
  refine wpAny_Name (wpAny_loadName_local (v := v1) rfl rfl hns₄ (by first | rfl | with_unfolding_all rfl) ?_) (by decide)
  refine wpAny_Name (wpAny_loadName_local (v := .ref x) rfl rfl hns₄ (by first | rfl | with_unfolding_all rfl) ?_) (by decide)
  refine set_plain X₄ (ox := excO C t1) (od := none) ⟨hx₄, rfl, rfl, trivial⟩ T.sa ?_
  refine exc_osa X₄ hx₄ hcl (show refsVE (.ref C :: bm) = true from hbm) rfl T.noI (fun h₅ tk₅ dx k₅ dn dne hx₅ hn₅ => ?_)
  have X₅ : K.In h₅ := kept_but X₄ hnx k₅
  have z4 : hp.objs.size < h₄.objs.size := hns₄.lt
  have hns₅ : h₅.Ns hp.objs.size (fun y => ([("self", Value.ref x), ("index", v1), ("what", v2)] : List (Str × Value)).reverse.lookup y) := by
    obtain ⟨o, es, ep, e1, e2⟩ := hns₄
    exact ⟨o, es, ep, k₅ _ _ hxL e1, e2⟩
  refine wpAny_execs_cons (plainObj_wpAny_Assign_Attribute ?_)
  refine wpAny_Name (wpAny_loadName_local (v := v2) rfl rfl hns₅ (by first | rfl | with_unfolding_all rfl) ?_) (by decide)
  refine wpAny_Name (wpAny_loadName_local (v := .ref x) rfl rfl hns₅ (by first | rfl | with_unfolding_all rfl) ?_) (by decide)
  have hw : Within (fun y => if y = "index" then some v1 else none) [("index" : Str)] := Within.cons "index" v1 Within.nil
  obtain ⟨oD, esD, epD, hoD, hdD, _⟩ := hn₅.count hw
  refine set_plain X₅ (ox := { cls := .ref C, dict := some dx, data := .fields #[.ref t1, .none, .none, .none, .bool false, .none] }) (od := some oD) ⟨hx₅, rfl, rfl, hoD⟩ T.sa ?_
  refine OEX.osa_old X₅ hx₅ hn₅ hw (by decide) hcl (show refsVE (.ref C :: bm) = true from hbm) rfl T.noW (fun h₆ tk₆ k₆ hn₆ => ?_)
  refine wpAny_execs_nil ?_
  refine hq h₆ tk₆ dx t1 ⟨fun b o hb e => ?_, k₆ _ _ dne.symm hx₅, Nat.le_of_lt (Nat.lt_of_lt_of_le z4 dn), dne, hn₆⟩
  have hbd : b ≠ dx := fun zz => by
    have q1 := Heap.lt_size e
    rw [zz] at q1
    exact absurd (show dx < hp.objs.size from q1) (Nat.not_lt.mpr (Nat.le_of_lt (Nat.lt_of_lt_of_le z4 dn)))
  exact k₆ _ _ hbd (k₅ _ _ hb (all4 b o hb e))
/-- a made BadValues -/
structure OwnMade (h h' : Heap) (e C d : Addr) (v1 v2 : Value) : Prop where
  keep : ∀ b o, h.get? b = some o → h'.get? b = some o
  new : h.objs.size ≤ e
  obj : ∃ oe vs, h'.get? e = some oe ∧ oe.cls = .ref C ∧ oe.dict = some d ∧ oe.data = .fields vs ∧ vs[1]? = some .none
  dbig : h.objs.size ≤ d
  dne : d ≠ e
  ns : h'.Ns1 d (fun y => if y = "what" then some v2 else if y = "index" then some v1 else none)
theorem bad_made (T : BadTxt prog K mg C fI) {v1 v2 : Value} (X : K.In s.heap) (G : Ground mg s.heap) (hroom : A.depth + 1 < recursionLimit)
    (hq : ∀ h' tk e d, OwnMade s.heap h' e C d v1 v2 → R (.ok (.ret (.ref e))) { s with heap := h', toks := tk }) :
    codeAny (model prog w) A (.call (.ref C) ⟨[v1, v2], []⟩) R s := by
  obtain ⟨nm, q, N, bs, bm, sn, sub, ab, col, dd, k0, k1, k2, k3, k5, hC, hbm⟩ := T.cls
  obtain ⟨hp, g, dr, tk, os⟩ := s
  have k : ∀ b o, hp.get? b = some o → ((hp.push (kdv_tup [v1, v2])).push (excO C hp.objs.size)).get? b = some o := fun b o e => Heap.get?_push_of_some _ (Heap.get?_push_of_some _ e)
  have hget : ((hp.push (kdv_tup [v1, v2])).push (excO C hp.objs.size)).get? (hp.objs.size + 1) = some (excO C hp.objs.size) := by heap_get
  have hnx : K.lookup (hp.objs.size + 1) = none := by
    cases e : K.lookup (hp.objs.size + 1) with
    | none => rfl
    | some o =>
      have z : hp.get? (hp.objs.size + 1) = some o := X _ _ e
      exact absurd (Nat.lt_of_succ_lt (Heap.lt_size z)) (Nat.lt_irrefl _)
  refine call_own F.excBase_ValueError (fun X => refsVE_contains X bm hbm) (X _ _ hC) (looks_findIn X T.iC) (fun self => bind_fn X self T.tC) (two_size v1 v2) ?_
  refine bad_init (s := ⟨(hp.push (kdv_tup [v1, v2])).push (excO C hp.objs.size), g, dr, tk, os⟩) T (X.keeps k) (G.keeps k) hget hnx ?_ fun h' tk' dx t1 ⟨k', hx, dn, dne, hns⟩ => ?_
  · show A.depth + 1 < recursionLimit
    exact hroom
  · have old : ∀ b o, hp.get? b = some o → h'.get? b = some o := fun b o e => k' b o (Nat.ne_of_lt (Nat.lt_succ_of_lt (Heap.lt_size e))) (k b o e)
    have z : hp.objs.size + 1 + 1 ≤ dx := by
      first
        | (simpa only [Heap.size_push] using dn)
        | exact dn
        | (have q := dn; rw [Heap.size_push, Heap.size_push] at q; exact q)
    exact ⟨rfl, hq h' tk' (hp.objs.size + 1) dx ⟨old, Nat.le_succ _, ⟨_, _, hx, rfl, rfl, rfl, rfl⟩, Nat.le_trans (Nat.le_trans (Nat.le_succ _) (Nat.le_succ _)) z, dne, hns⟩⟩
end
end BadX
end PySem
namespace L2
open PySem PySem.Spec PyProof.Rows
theorem relO_bad {v1 v2 : V} {u1 u2 : Value} (r1 : RelV v1 u1) (r2 : RelV v2 u2) (f : Str) : RelO (List.lookup f [(("index" : Str), v1), (("what" : Str), v2)]) (if f = "what" then some u2 else if f = "index" then some u1 else none) := by
  by_cases hw : f = "what"
  · subst hw
    rw [if_pos rfl]
    have q : List.lookup ("what" : Str) [(("index" : Str), v1), (("what" : Str), v2)] = some v2 := by
      have : (("what" : Str) == ("index" : Str)) = false := by decide
      simp [List.lookup, this]
    rw [q]
    exact r2
  · rw [if_neg hw]
    by_cases hi : f = "index"
    · subst hi
      rw [if_pos rfl]
      have q : List.lookup ("index" : Str) [(("index" : Str), v1), (("what" : Str), v2)] = some v1 := by simp [List.lookup]
      rw [q]
      exact r1
    · rw [if_neg hi]
      have qw : (f == ("what" : Str)) = false := by simpa using hw
      have qi : (f == ("index" : Str)) = false := by simpa using hi
      have q2 : List.lookup f [(("index" : Str), v1), (("what" : Str), v2)] = none := by simp [List.lookup, qw, qi]
      rw [q2]
      trivial
section
variable {X : Cx} {C fI : Addr}
/-- BadValues(a, b) -/
def tMkBad (C : Addr) (ta : TA) : St → Hp → XK → Prop := fun σ H Q => ta σ H fun vs H1 => ∃ v1 v2, vs = [v1, v2] ∧ ∀ d, H1 d = none → Q (.ref C) (some d) (upd H1 d (.xd [(("index" : Str), v1), (("what" : Str), v2)]))
theorem pmk_bad {a b : Expr} {ta : TA} {p pos : Pos} {k : Nat} (T : PySem.BadX.BadTxt X.prog X.K X.mg C fI) (hr : Room k X.A) (ha : PA X [a, b] ta) (hg : Gl X "BadValues" := by rfl)
    (he : starEach (a :: [b]) X.env = (false, eval a X.env) :: starEach [b] X.env := by rfl) (hpl : (backTo pos (starEach [b] X.env)).any (·.1) = false := by rfl) :
    PMk X (.Call (.Name "BadValues" p) [a, b] [] pos) (tMkBad C ta) := by
  intro pins s σ H Q I h
  refine wpAny_Call_Name_kw (ld_glob I hg T.gC ?_)
  refine PySem.W.callWith_K (h₀ := X.base) I.ok.mod.kin T.kC (thn (ha.run pos pins s σ H _ I h) fun us s1 hh => ?_) he hpl
  obtain ⟨vs, H1, I1, r1, v1, v2, ev, q1⟩ := hh
  subst ev
  refine ⟨I1.kIn, ?_⟩
  cases r1 with
  | cons rv rn =>
    rename_i u1 us1
    cases rn with
    | cons rv2 rn =>
      rename_i u2 us2
      cases rn
      show wpAny _ _ (call (.ref C) [u1, u2]) _ _ _
      have hG : PySem.BadX.Ground X.mg s1.heap := ⟨I1.mod.glob.keeps I1.bk, let ⟨mb, q1, q2⟩ := I1.mod.blt; ⟨mb, q1.keeps I1.bk, q2⟩, I1.nolimit⟩
      obtain ⟨hp, g, dr, tk, os⟩ := s1
      refine wpAny_call (PySem.BadX.bad_made T I1.kIn hG (by have := hr.dp; omega) fun h' tk' e d M => ?_)
      show MkP X pins σ Q (.ref e) ⟨h', g, dr, tk', os⟩
      obtain ⟨oe, fv, hoe, hc, hd, hdat, h1⟩ := M.obj
      have hns := M.ns
      obtain ⟨G', g1, g2⟩ := restrict h' fun b => decide (b ≠ e)
      have gk : ∀ b, b ≠ e → G'.get? b = h'.get? b := fun b hb => g1 b (decide_eq_true hb)
      have ge : G'.get? e = none := g2 e (by simp)
      have old : ∀ b o, hp.get? b = some o → G'.get? b = some o := fun b o q => (gk b (Nat.ne_of_lt (Nat.lt_of_lt_of_le (Heap.lt_size q) M.new))).trans (M.keep b o q)
      have ob : ObjOk X.prog X.w (upd H1 d (.xd [(("index" : Str), v1), (("what" : Str), v2)])) G' d (.xd [(("index" : Str), v1), (("what" : Str), v2)]) :=
        ⟨_, hns.at (fun o q => (gk d M.dne).trans q), fun f => relO_bad rv rv2 f⟩
      have J : Inv X pins σ (upd H1 d (.xd [(("index" : Str), v1), (("what" : Str), v2)])) ⟨G', g, dr, tk', os⟩ := I1.laid (t' := tk') old M.dbig ob
      refine ⟨e, oe, fv, ⟨G', g, dr, tk', os⟩, _, .ref C, some d, rfl, J, fun b o q => ?_, ge, hoe, ⟨hc, hd⟩, hdat, h1, ?_, rfl, I1.bare, raises_own T.exC T.tyC, q1 d (I1.hok.fresh M.dbig)⟩
      · by_cases hb : b = e
        · have q' : G'.get? b = some o := q
          rw [hb, ge] at q'; cases q'
        · exact (gk b hb).symm.trans q
      · rw [upd_ne (Ne.symm M.dne)]
        exact I1.hok.fresh M.new
end
end L2
/-! Dx: the data layer with the program's own exception. -/
namespace K20
open PySem L2
open Evl (Ex)
open PyProof.Rows (envOfC)
abbrev xdB (v1 v2 : V) : HO := .xd [(("index" : Str), v1), (("what" : Str), v2)]
/-- the wish W takes the exceptions that R tells of -/
def XOk (c : Ctx) (CB : Addr) (W : XK) (R : Dt → Dt → Prop) : Prop := ∀ (G H : Hp) (v1 v2 : V) (d1 d2 : Dt) (dx : Addr), Gd c G H → G dx = none → H dx = some (xdB v1 v2) → Rep c.K G v1 d1 → Rep c.K G v2 d2 → R d1 d2 → W (.ref CB) (some dx) H
theorem Gd.under {c : Ctx} {G H G' H' : Hp} (g : Gd c G H) (g' : Gd ⟨c.K, G, H, none⟩ G' H') : Gd c G' H' :=
  g.step (g.stp g'.g0 g'.gh fun a h1 h2 => ⟨(g'.fr a h1 h2).1, (g'.fr a h1 h2).2 fun z => by cases z⟩)
theorem Gd.stpU {c : Ctx} {G H G' H' : Hp} (g : Gd c G H) (g' : Gd ⟨c.K, G, H, none⟩ G' H') : Stp c G H G' H' :=
  g.stp g'.g0 g'.gh fun a h1 h2 => ⟨(g'.fr a h1 h2).1, (g'.fr a h1 h2).2 fun z => by cases z⟩
theorem XOk.under {c : Ctx} {CB : Addr} {W : XK} {R : Dt → Dt → Prop} {G H : Hp} (x : XOk c CB W R) (g : Gd c G H) : XOk ⟨c.K, G, H, none⟩ CB W R :=
  fun G' H' v1 v2 d1 d2 dx g' h1 h2 r1 r2 p => x G' H' v1 v2 d1 d2 dx (g.under g') h1 h2 r1 r2 p
theorem XOk.no {c : Ctx} {CB : Addr} {W : XK} : XOk c CB W fun _ _ => False := fun _ _ _ _ _ _ _ _ _ _ _ _ p => p.elim
section
variable {c : Ctx} {CB : Addr} {ta tr : TA} {ρ : List Sl} {E : DEn} {R Rx : Dt → Dt → Prop} {W : XK} {P : Dt → Prop}
theorem ds_raise (x : XOk c CB W R) (h : DA c ta ρ fun ds => ∃ d1 d2, ds = [d1, d2] ∧ R d1 d2) : DS c (fun _ σ H => tMkBad CB ta σ H fun cls d H' => W cls d H') ρ E := fun σ G H I D nx rt bk ct =>
  h σ G H I _ fun vs ds G1 H1 s r ⟨d1, d2, e, p⟩ => by
    subst e
    cases r with
    | @cons v1 _ _ _ r1 r =>
      cases r with
      | @cons v2 _ _ _ r2 r =>
        cases r
        have g1 := I.gd.step s
        exact ⟨v1, v2, rfl, fun dx hd => x G1 (upd H1 dx _) v1 v2 d1 d2 dx (g1.step (g1.newOwn hd)) (Ex.sub_none g1.gh hd) upd_same r1 r2 p⟩
end
/-- a call that may raise -/
def spX (K : PySem.W.Frag) (CB : Addr) (pre : List Dt → (Dt → Prop) → (Dt → Dt → Prop) → Prop) : Sp := fun vs H Q E => ∃ (G : Hp) (ds : List Dt) (R : Dt → Prop) (Rx : Dt → Dt → Prop), Ex G H ∧ Reps K G vs ds ∧ pre ds R Rx ∧
  (∀ v d G' H', Ex G G' → Ex G' H' → (∀ a, H a ≠ none → G a = none → G' a = none ∧ H' a = H a) → Rep K G' v d → R d → Q v H') ∧ XOk ⟨K, G, H, none⟩ CB E Rx
section
variable {c : Ctx} {CB : Addr} {tr : TA} {ρ : List Sl} {Rx : Dt → Dt → Prop} {P : Dt → Prop}
theorem de_callX {pre : List Dt → (Dt → Prop) → (Dt → Dt → Prop) → Prop} {Ef : L2.St → XK} (hW : ∀ σ G H, Env c σ G H ρ → XOk ⟨c.K, G, H, none⟩ CB (Ef σ) Rx) (h : DA c tr ρ fun ds => pre ds P Rx) : DE c (tCallS (spX c.K CB pre) Ef tr) ρ P := fun σ G H E Q q =>
  h σ G H E _ fun vs ds G1 H1 s1 r1 h1 => ⟨G1, ds, P, Rx, s1.gh, r1, h1, fun v d G' H' gg gh fr r p => q v d G' H' (s1.trans ((E.gd.step s1).stp gg gh fr)) r p, hW σ G1 H1 (E.step s1)⟩
theorem de_callX1 {pre : List Dt → (Dt → Prop) → (Dt → Dt → Prop) → Prop} {W : XK} (x : XOk c CB W Rx) (h : DA c tr ρ fun ds => pre ds P Rx) : DE c (tCallS (spX c.K CB pre) (WE fun cls d _ H => W cls d H) tr) ρ P :=
  de_callX (fun σ G H I => x.under I.gd) h
theorem de_callX0 {pre : List Dt → (Dt → Prop) → (Dt → Dt → Prop) → Prop} {Ef : L2.St → XK} (h : DA c tr ρ fun ds => pre ds P fun _ _ => False) : DE c (tCallS (spX c.K CB pre) Ef tr) ρ P :=
  de_callX (fun σ G H I => XOk.no) h
end
section
variable {P : Program} {w : World} {K : PySem.W.Frag} {mg : Str → Option Value} {base : Heap}
theorem ok_X {CB : Addr} {x qual : Str} {st : Stmt} {f : Addr} {fd : FuncData} {N ps : List Str} {k : Nat} {pre : List Dt → (Dt → Prop) → (Dt → Dt → Prop) → Prop} (F : Fun K x qual st f fd) (S : FnScope N ps (defScope st)) (len : ∀ ds R Rx, pre ds R Rx → ds.length = ps.length)
    (hbody : ∀ (cdv : Value) (A : Around) (outer : List PySem.Env) (s : Shared) (H : Hp) (E : XK), Room k (A.deeper (envOfC qual (defScope st) s.heap.objs.size f cdv)) →
      ∃ t, PSs (cxOf (L2.CX P w) P w K mg base N qual (defScope st) f cdv A outer s H E) (defBody st) t ∧ ∀ (G0 H0 : Hp) (ds : List Dt) (R : Dt → Prop) (Rx : Dt → Dt → Prop), pre ds R Rx → XOk ⟨K, G0, H0, none⟩ CB E Rx → DS ⟨K, G0, H0, none⟩ t (start9 N ds) { nx := fun _ => R .non, rt := fun _ => R }) :
    FnOk P w K mg base (L2.CX P w) (k + 1) f fd ps (spX K CB pre) :=
  F.okX S (fun vs H Q E ⟨G, ds, R, Rx, e, r, p, q, x⟩ => by rw [r.length]; exact len ds R Rx p) fun cdv A outer s H vs Q E hr ⟨G, ds, R, Rx, e, r, p, q, x⟩ => by
    obtain ⟨t, h1, h2⟩ := hbody cdv A outer s H E hr
    refine ⟨t, h1, h2 G H ds R Rx p x (L2.start N vs) G H (env_start e r) _ (fun σ' G' H' ρ' _ I' z => ?_) (fun v d σ' G' H' ρ' I' rv z => ?_) (fun σ' G' H' ρ' _ _ z => z.elim) (fun σ' G' H' ρ' _ _ z => z.elim)⟩
    · exact q _ _ G' H' I'.gd.g0 I'.gd.gh (fun a h1 h2 => ⟨(I'.gd.fr a h1 h2).1, (I'.gd.fr a h1 h2).2 fun z => by cases z⟩) .non z
    · exact q _ _ G' H' I'.gd.g0 I'.gd.gh (fun a h1 h2 => ⟨(I'.gd.fr a h1 h2).1, (I'.gd.fr a h1 h2).2 fun z => by cases z⟩) rv z
/-- a def that may raise, by its name -/
def CalX (P : Program) (w : World) (K : PySem.W.Frag) (mg : Str → Option Value) (base : Heap) (CB : Addr) (x : Str) (k : Nat) (ps : List Str) (pre : List Dt → (Dt → Prop) → (Dt → Dt → Prop) → Prop) : Prop :=
  ∃ f fd, FnOk P w K mg base (L2.CX P w) k f fd ps (spX K CB pre) ∧ mg x = some (.ref f) ∧ PySem.W.keepIn K (.ref f) = true ∧ Binds K fd ps []
end
theorem pe_calX {X : Cx} {CB : Addr} {x : Str} {j k : Nat} {ps : List Str} {pre : List Dt → (Dt → Prop) → (Dt → Dt → Prop) → Prop} {Ef : L2.St → XK} {p pos : Pos} {e : PySem.Expr} {es : List PySem.Expr} {t : TA} (C : CalX X.prog X.w X.K X.mg X.base CB x j ps pre) (hr : Room k X.A) (hj : j ≤ k) (hg : Gl X x)
    (hx : ∀ σ, PassesAt (L2.CX X.prog X.w) X σ (Ef σ)) (ha : PA X (e :: es) t)
    (hd : (x == ("__debug__" : Str)) = false := by decide) (he : starEach (e :: es) X.env = (false, eval e X.env) :: starEach es X.env := by rfl) (hpl : (backTo pos (starEach es X.env)).any (·.1) = false := by rfl) :
    PE X (.Call (.Name x p) (e :: es) [] pos) (tCallS (spX X.K CB pre) Ef t) := by
  obtain ⟨f, fd, F, hm, hk, hb⟩ := C
  exact pe_callS F (hr.mono hj) hg hm hk hb hx ha hd he hpl
theorem passNo {X : Cx} {σ : L2.St} : PassesAt (L2.CX X.prog X.w) X σ (fun _ _ _ => False) := fun _ _ _ _ _ _ ⟨_, _, _, _, _, _, _, _, _, _, _, _, z⟩ => z.elim
/-! ### try -/
theorem env_no {c : Ctx} {σ : L2.St} {G H : Hp} (g : Gd c G H) : Env c σ G H (List.replicate σ.length .no) where
  gd := g
  len := by rw [List.length_replicate]
  sl := fun i s h => by
    rw [List.getElem?_replicate] at h
    split at h
    · cases h; trivial
    · cases h
  own := fun i j xs ys a h => by
    rw [List.getElem?_replicate] at h
    split at h <;> cases h
theorem ds_try {K : PySem.W.Frag} {G0 H0 : Hp} {CB : Addr} {ρ : List Sl} {i : Nat} {tb : WX → TS} {ts : Addr → Value → Option Addr → TS} {Wout : WX} {E : DEn} {R : Dt → Dt → Prop} {Q : Dt → Prop} (cm : PySem.W.exmOne K (.ref CB) (.ref CB) = some true) (hi : i < ρ.length) (no : ∀ (i : Nat) xs, ρ[i]? ≠ some (.own xs))
    (hb : ∀ W : WX, (∀ σ G H, Env ⟨K, G0, H0, none⟩ σ G H ρ → XOk ⟨K, G, H, none⟩ CB (WE W σ) R) → DS ⟨K, G0, H0, none⟩ (tb W) ρ E)
    (hs : ∀ (a dx : Addr) (G H : Hp) (v1 v2 : V) (d1 d2 : Dt), G dx = none → H dx = some (xdB v1 v2) → Rep K G v1 d1 → Rep K G v2 d2 → R d1 d2 → DS ⟨K, G, H, none⟩ (ts a (.ref CB) (some dx)) (ρ.set i (.raw (.ref a))) { nx := fun _ => False, rt := fun _ => Q })
    (hE : ∀ ρ d, Q d → E.rt ρ d) : DS ⟨K, G0, H0, none⟩ (fun D σ H => tb (wAs K (.ref CB) i ts Wout D) D σ H) ρ E := fun σ G H I D nx rt bk ct => by
  refine hb _ (fun σ1 G1 H1 I1 G2 H2 v1 v2 d1 d2 dx g' h1 h2 r1 r2 p => ?_) σ G H I D nx rt bk ct
  refine ⟨true, cm, fun _ a ha => ?_, fun z => by cases z⟩
  have I2 : Env ⟨K, G0, H0, none⟩ σ1 G2 H2 ρ := I1.step (I1.gd.stpU g')
  have I3 := I2.rebase I2.gd.gh no
  have I4 := I3.setS (v := .ref a) (s := .raw (.ref a)) hi rfl (fun xs j ys b z => by cases z)
  refine hs a dx G2 H2 v1 v2 d1 d2 h1 h2 r1 r2 p _ G2 H2 I4 _ (fun _ _ _ _ _ _ z => z.elim) (fun v d σ' G' H' ρ' I' rv z => ?_) (fun _ _ _ _ _ _ z => z.elim) fun _ _ _ _ _ _ z => z.elim
  exact rt v d σ' G' H' _ (env_no (I2.gd.under I'.gd)) rv (hE _ _ z)
theorem de_xf {K : PySem.W.Frag} {G0 H0 : Hp} {CB a dx : Addr} {ρ : List Sl} {i : Nat} {f : Str} {fs : List (Str × V)} {v0 : V} {d0 : Dt} {P : Dt → Prop} (hi : ρ[i]? = some (.raw (.ref a))) (hg : G0 dx = none) (hx : H0 dx = some (.xd fs)) (hl : fs.lookup f = some v0) (r : Rep K G0 v0 d0) (p : P d0) :
    DE ⟨K, G0, H0, none⟩ (tXf a (.ref CB) (some dx) CB f (tVar i)) ρ P := fun σ G H I Q q =>
  ⟨.ref a, I.sl i _ hi, rfl, rfl, dx, fs, v0, rfl, ((I.gd.fr dx (show H0 dx ≠ none by rw [hx]; exact fun z => by cases z) hg).2 fun z => by cases z).trans hx, hl, q v0 d0 G H I.gd.refl (r.mono I.gd.g0) p⟩
end K20
namespace K20
open PySem L2
open Evl (Ex)
open PyProof.Rows (envOfC)
/-! F12: rows of known values looked at. -/
theorem pe_calXC {X : Cx} {K : PySem.W.Frag} {CB : Addr} {x : Str} {j k : Nat} {ps : List Str} {pre : List Dt → (Dt → Prop) → (Dt → Dt → Prop) → Prop} {Ef : L2.St → XK} {p pos : Pos} {e : PySem.Expr} {es : List PySem.Expr} {t : TA} (hK : X.K = K) (C : CalX X.prog X.w K X.mg X.base CB x j ps pre) (hr : Room k X.A) (hj : j ≤ k) (hg : Gl X x)
    (hx : ∀ σ, PassesAt (L2.CX X.prog X.w) X σ (Ef σ)) (ha : PA X (e :: es) t)
    (hd : (x == ("__debug__" : Str)) = false := by decide) (he : starEach (e :: es) X.env = (false, eval e X.env) :: starEach es X.env := by rfl) (hpl : (backTo pos (starEach es X.env)).any (·.1) = false := by rfl) :
    PE X (.Call (.Name x p) (e :: es) [] pos) (tCallS (spX K CB pre) Ef t) := by
  subst hK
  exact pe_calX C hr hj hg hx ha hd he hpl
def okE (n : Nat) (x : Dt) : Option (Int × Dt) := match pr x with
  | some (.int k, b) => if (0 ≤ k ∧ k < n) ∧ isRt b = true then some (k, b) else none
  | _ => none
/-- the first place and word of what is wrong -/
def wdL (n : Nat) : Int → Nat → List Dt → Option (Nat × Str)
  | _, _, [] => none
  | ah, i, x :: xs => match okE n x with
    | none => some (i, "value")
    | some (k, _) => if k ≤ ah then some (i, "rising") else wdL n k (i + 1) xs
def wd (n : Nat) (d : Dt) : Option (Nat × Str) := match seqOf d with
  | none => some (0, "many")
  | some xs => if n < xs.length then some (0, "many") else wdL n (-1) 0 xs
def wdD : Option (Nat × Str) → Dt
  | none => .non
  | some (i, w) => .tup [.int i, .str w]
def prD (p : Int × Dt) : Dt := .tup [.int p.1, p.2]
/-- the values as they are told -/
def vals (n : Nat) (xs : List Dt) : List Dt := (xs.filterMap (okE n)).map prD
def resD (n : Nat) (d : Dt) : Dt := .tup (vals n ((seqOf d).getD []))
theorem wdL_no {n : Nat} {ah : Int} {i : Nat} {x : Dt} {xs : List Dt} (h : okE n x = none) : wdL n ah i (x :: xs) = some (i, ("value" : Str)) := by rw [wdL, h]
theorem wdL_yes {n : Nat} {ah k : Int} {b : Dt} {i : Nat} {x : Dt} {xs : List Dt} (h : okE n x = some (k, b)) : wdL n ah i (x :: xs) = if k ≤ ah then some (i, ("rising" : Str)) else wdL n k (i + 1) xs := by rw [wdL, h]
theorem okE_pr {n : Nat} {x : Dt} (h : pr x = none) : okE n x = none := by unfold okE; rw [h]
theorem okE_int {n : Nat} {x a b : Dt} (h : pr x = some (a, b)) (ha : ∀ k, a ≠ .int k) : okE n x = none := by
  unfold okE
  rw [h]
  cases a <;> first | rfl | exact absurd rfl (ha _)
theorem okE_at {n : Nat} {x b : Dt} {k : Int} (h : pr x = some (.int k, b)) : okE n x = if (0 ≤ k ∧ k < n) ∧ isRt b = true then some (k, b) else none := by unfold okE; rw [h]
theorem entry_cases (x : Dt) : (isLT x = false ∧ pr x = none) ∨ (∃ ys, isSeq x ys ∧ ys.length ≠ 2 ∧ pr x = none) ∨ ∃ a b, isSeq x [a, b] ∧ pr x = some (a, b) := by
  cases x with
  | lst ys =>
    match ys with
    | [] => exact .inr (.inl ⟨_, .inl rfl, by simp, rfl⟩)
    | [_] => exact .inr (.inl ⟨_, .inl rfl, by simp, rfl⟩)
    | [a, b] => exact .inr (.inr ⟨a, b, .inl rfl, rfl⟩)
    | _ :: _ :: _ :: _ => exact .inr (.inl ⟨_, .inl rfl, by simp, rfl⟩)
  | tup ys =>
    match ys with
    | [] => exact .inr (.inl ⟨_, .inr rfl, by simp, rfl⟩)
    | [_] => exact .inr (.inl ⟨_, .inr rfl, by simp, rfl⟩)
    | [a, b] => exact .inr (.inr ⟨a, b, .inr rfl, rfl⟩)
    | _ :: _ :: _ :: _ => exact .inr (.inl ⟨_, .inr rfl, by simp, rfl⟩)
  | _ => exact .inl ⟨rfl, rfl⟩
theorem seq_cases (d : Dt) : (isLT d = false ∧ seqOf d = none) ∨ ∃ xs, isSeq d xs ∧ seqOf d = some xs := by
  cases d with
  | lst xs => exact .inr ⟨xs, .inl rfl, rfl⟩
  | tup xs => exact .inr ⟨xs, .inr rfl, rfl⟩
  | _ => exact .inl ⟨rfl, rfl⟩
theorem shD_seq {d x : Dt} {xs : List Dt} (h : shD d) (hs : isSeq d xs) (hx : x ∈ xs) : shD x := by
  rcases hs with rfl | rfl
  · exact shD_lst_mem h hx
  · exact shD_tup_mem h hx
theorem drop_at {xs : List Dt} {i : Nat} {x : Dt} (h : xs[i]? = some x) : xs.drop i = x :: xs.drop (i + 1) := by
  obtain ⟨hi, e⟩ := List.getElem?_eq_some_iff.mp h
  rw [List.drop_eq_getElem_cons hi, e]
theorem int_or (a : Dt) : (∃ k, a = .int k) ∨ ((∀ k, a ≠ .int k) ∧ (isBl a = true ∨ isIn a = false)) := by
  cases a with
  | int k => exact .inl ⟨k, rfl⟩
  | bl b => exact .inr ⟨fun k z => (by cases z), .inl rfl⟩
  | _ => exact .inr ⟨fun k z => (by cases z), .inr rfl⟩
def p_law_word_due (ds : List Dt) (Q : Dt → Prop) : Prop := ∃ (n : Nat) (d : Dt), ds = [.int n, d] ∧ n ≤ 24 ∧ shD d ∧ Q (wdD (wd n d))
theorem len_law_word_due {ds : List Dt} {Q : Dt → Prop} (h : p_law_word_due ds Q) : ds.length = 2 := by
  obtain ⟨_, _, rfl, _⟩ := h; rfl
def p_check_known (CL : Addr) (ds : List Dt) (R : Dt → Prop) (Rx : Dt → Dt → Prop) : Prop := ∃ (n : Nat) (m st : Nat → Option Rat) (d : Dt), ds = [limO CL n m st, d] ∧ n ≤ 24 ∧ shD d ∧ (wd n d = none → R (resD n d)) ∧ ∀ i w, wd n d = some (i, w) → Rx (.int i) (.str w)
theorem len_check_known {CL : Addr} {ds : List Dt} {R : Dt → Prop} {Rx : Dt → Dt → Prop} (h : p_check_known CL ds R Rx) : ds.length = 2 := by
  obtain ⟨_, _, _, _, rfl, _⟩ := h; rfl
theorem isWh_no {a : Dt} {lo hi : Option Int} (h : ∀ k, a ≠ .int k) : isWh a lo hi = false := by
  cases a <;> first | rfl | exact absurd rfl (h _)
theorem rt_sh {b : Dt} (h : isRt b = true) : sh 1 b = true := by
  unfold isRt at h
  split at h
  · simp [sh, shAll]
  · cases h
theorem okE_some {n : Nat} {x b : Dt} {k : Int} (h : okE n x = some (k, b)) : pr x = some (.int k, b) ∧ 0 ≤ k ∧ k < n ∧ isRt b = true := by
  unfold okE at h
  split at h
  · rename_i k' b' e
    split at h
    · rename_i z
      cases h
      exact ⟨e, z.1.1, z.1.2, z.2⟩
    · cases h
  · cases h
theorem vals_sh (n : Nat) (xs : List Dt) : sh 3 (.lst (vals n xs)) = true := by
  rw [sh]
  refine shAll_of fun x hx => ?_
  unfold vals at hx
  obtain ⟨⟨k, b⟩, h1, rfl⟩ := List.mem_map.mp hx
  obtain ⟨y, _, h2⟩ := List.mem_filterMap.mp h1
  have := rt_sh (okE_some h2).2.2.2
  simp [prD, sh, shAll, this]
theorem vals_next {n i : Nat} {xs : List Dt} {x b : Dt} {k : Int} (hx : xs[i]? = some x) (h : okE n x = some (k, b)) : vals n (xs.take (i + 1)) = vals n (xs.take i) ++ [.tup [.int k, b]] := by
  unfold vals
  rw [List.take_add_one, hx, List.filterMap_append, List.map_append]
  simp [h, prD]
theorem vals_len (n : Nat) (xs : List Dt) : (vals n xs).length ≤ xs.length := by
  unfold vals
  rw [List.length_map]
  exact List.length_filterMap_le _ _
local macro_rules | `(tactic| walk_at "d1") => `(tactic| first
  | with_reducible refine ds_seq ?_
  | with_reducible refine dsr_seq ?_
  | with_reducible refine ds_ret ?_
  | with_reducible refine ds_retN ?_
  | with_reducible refine ds_next ?_
  | with_reducible refine ds_own rfl (dl_list ?_)
  | with_reducible refine ds_own rfl (dl_lst ?_)
  | with_reducible refine ds_app rfl ?_ ?_
  | with_reducible refine ds_put rfl ?_
  | with_reducible refine ds_set rfl ?_
  | with_reducible refine ds_asg ?_
  | with_reducible refine ds_if ?_
  | with_reducible refine ds_par rfl rfl ?_
  | with_reducible refine de_var rfl ?_
  | with_reducible refine de_int ?_
  | with_reducible refine de_bl ?_
  | with_reducible refine de_non ?_
  | with_reducible refine de_str ?_
  | with_reducible refine de_add ?_
  | with_reducible refine de_mul ?_
  | with_reducible refine de_ix_own rfl ?_
  | with_reducible refine de_ix ?_
  | with_reducible refine de_call ?_
  | with_reducible refine de_callH rfl ?_
  | with_reducible refine de_callD (dds := [.non, .non]) (fun _ => .cons .non (.cons .non .nil)) ?_
  | with_reducible refine de_callD (dds := [.non]) (fun _ => .cons .non .nil) ?_
  | with_reducible refine de_chainI ?_
  | with_reducible refine de_opI0 ?_
  | with_reducible refine de_opI ?_
  | with_reducible refine de_opB0 ?_
  | with_reducible refine de_isN ?_
  | with_reducible refine de_notN ?_
  | with_reducible refine de_eqD ?_
  | with_reducible refine de_ne_own rfl ?_
  | with_reducible refine de_neD ?_
  | with_reducible refine de_neg ?_
  | with_reducible refine de_len_own rfl ?_
  | with_reducible refine de_len ?_
  | with_reducible refine de_int1 ?_
  | with_reducible refine de_abs ?_
  | with_reducible refine de_min2 ?_
  | with_reducible refine de_max2 ?_
  | with_reducible refine de_tuple_own rfl ?_
  | with_reducible refine de_tup ?_
  | with_reducible refine de_if ?_
  | with_reducible refine de_isBl ?_
  | with_reducible refine de_isIn ?_
  | with_reducible refine de_isTu ?_
  | with_reducible refine de_isLT ?_
  | with_reducible refine de_andV ?_
  | with_reducible refine de_orV ?_
  | with_reducible refine de_notT ?_
  | with_reducible refine de_fld ?_
  | with_reducible refine de_slice ?_
  | with_reducible refine do_none ?_
  | with_reducible refine do_some ?_
  | with_reducible refine dt_test ?_
  | with_reducible refine dt_tru ?_
  | with_reducible refine dt_and ?_
  | with_reducible refine dt_or ?_
  | with_reducible refine dt_not ?_
  | with_reducible refine da_cons ?_
  | with_reducible refine da_nil ?_
  | with_reducible refine de_lst ?_
  | with_reducible refine de_of_dl (dl_list ?_)
  | with_reducible refine de_mkLimits ?_
  | with_reducible refine de_mkClash ?_
  | with_reducible refine de_lenLim ?_)
local macro_rules | `(tactic| walk_at "d2") => `(tactic| first
  | walk_at "d1"
  | with_reducible refine iteT ?_
  | with_reducible refine iteF ?_
  | with_reducible refine ite_f Bool.not_true ?_
  | with_reducible refine ite_t Bool.not_false ?_
  | (with_reducible refine Exists.intro _ (Exists.intro _ (And.intro rfl (And.intro rfl ?_))))
  | (with_reducible refine Exists.intro _ (And.intro rfl ?_))
  | (with_reducible refine .inl (Exists.intro _ (Exists.intro _ (And.intro rfl (And.intro rfl ?_)))))
  | (refine ⟨_, _, _, .inr rfl, rfl, rfl, ?_⟩)
  | (refine ⟨Nat.le_of_ble_eq_true rfl, ?_⟩)
  | (with_reducible refine And.intro rfl ?_)
  | (with_reducible refine And.intro (by walk_at "mul") ?_)
  | (with_reducible refine And.intro (by walk_at "shd") ?_))
local macro_rules | `(tactic| walk_at "dd") => `(tactic| (repeat walk_at "d2"))
local macro_rules | `(tactic| walk_at "set") => `(tactic| simp only [List.set_cons_zero, List.set_cons_succ])
local macro_rules | `(tactic| walk_at "mul") => `(tactic| first
  | exact mul_nd (by assumption) (by assumption) | exact mul_nn (by assumption) (by assumption) | exact mul_dd (by assumption) (by assumption))
local macro_rules | `(tactic| walk_at "shd") => `(tactic| first
  | exact shD_int _ | exact shD_non | exact shD_rat _ | exact shD_tupTab _ _ | with_reducible assumption)
local macro_rules | `(tactic| walk_at "tg") => `(tactic| refine dg_tup ⟨_, rfl, rfl, dgs_cons (dg_name0 rfl (dgs_cons (dg_name0 rfl (dgs_nil ?_))))⟩)
local macro_rules | `(tactic| walk_at "wp") => `(tactic| simp only [wipeD, List.map_cons, List.map_nil, List.set_cons_zero, List.set_cons_succ])
section
variable {P : Program} {w : World} {K : PySem.W.Frag} {mg : Str → Option Value} {base : Heap} {CL CC CB : Addr}
theorem ok_law_word_due (T : Txt K mg CL CC CB) (D : Def K mg "_law_word_due" s_law_word_due) (C_law_is_ratio : Cal P w K mg base "_law_is_ratio" 2 ["_law_thing"] (spD K p_law_is_ratio))  :
    Cal P w K mg base "_law_word_due" 3 ["_law_many_here", "_law_known_here"] (spD K p_law_word_due) := by
  obtain ⟨f, fd, F, hg⟩ := D
  refine ⟨f, fd, ok_D (k := 2) F sc_law_word_due (fun ds Q h => len_law_word_due h) (fun cdv A outer s H E hr => ⟨_, (pss_cons (ps_if (PW.pt (pw_or (pt_not (pt_tru (pe_isiT T.bi (pv 1) (pe_tup (pa_cons (pe_tyList T.bi) (pa_cons (pe_tyTuple T.bi) pa_nil)))))) (pw_or1 (pt_cmpR op_gt (pe_len T.bi (pv 1)) (pv 0) (nomark _))))) (pss_one (ps_ret (pe_tup (pa_cons pe_int (pa_cons pe_str pa_nil))))) pss_nil)
    (pss_cons (ps_set (i := 2) sc_law_word_due.nd rfl (Or.inl rfl) (pe_un un_neg pe_int))
    (pss_cons (ps_for PassesOwn.never rfl (pi_range1 rfl T.bi.range (pa_cons (pe_len T.bi (pv 1)) pa_nil)) (pg_name (i := 3) sc_law_word_due.nd rfl (Or.inl rfl)) (pss_cons (ps_set (i := 4) sc_law_word_due.nd rfl (Or.inl rfl) (pe_ix ix_seq (pv 1) (pv 3) (fun _ _ => rfl)))
    (pss_cons (ps_if (PW.pt (pw_or (pt_not (pt_tru (pe_isiT T.bi (pv 4) (pe_tup (pa_cons (pe_tyList T.bi) (pa_cons (pe_tyTuple T.bi) pa_nil)))))) (pw_or1 (pt_cmpR (op_neD hr.units) (pe_len T.bi (pv 4)) pe_int (nomark _))))) (pss_one (ps_ret (pe_tup (pa_cons (pv 3) (pa_cons pe_str pa_nil))))) pss_nil)
    (pss_cons (ps_if (PW.pt (pw_or (pt_tru (pe_isi T.bi (pe_ix ix_seq (pv 4) pe_int (fun _ _ => rfl)) (pe_tyBool T.bi))) (pw_or (pt_not (pt_tru (pe_isi T.bi (pe_ix ix_seq (pv 4) pe_int (fun _ _ => rfl)) (pe_tyInt T.bi)))) (pw_or1 (pt_not (pt_chain op_le op_lt pe_int (pe_ix ix_seq (pv 4) pe_int (fun _ _ => rfl)) (pv 0))))))) (pss_one (ps_ret (pe_tup (pa_cons (pv 3) (pa_cons pe_str pa_nil))))) pss_nil)
    (pss_cons (ps_if (pt_not (pt_tru (pe_cal C_law_is_ratio hr (by decide) rfl (pa_cons (pe_ix ix_seq (pv 4) pe_int (fun _ _ => rfl)) pa_nil)))) (pss_one (ps_ret (pe_tup (pa_cons (pv 3) (pa_cons pe_str pa_nil))))) pss_nil)
    (pss_cons (ps_if (pt_cmpR op_le (pe_ix ix_seq (pv 4) pe_int (fun _ _ => rfl)) (pv 2) (nomark _)) (pss_one (ps_ret (pe_tup (pa_cons (pv 3) (pa_cons pe_str pa_nil))))) pss_nil)
    (pss_one (ps_set (i := 2) sc_law_word_due.nd rfl (Or.inl rfl) (pe_ix ix_seq (pv 4) pe_int (fun _ _ => rfl))))))))))
    (pss_one (ps_ret pe_non))))), fun G0 H0 ds Q h => ?_⟩), hg, F.kp, F.binds fun _ _ _ _ _ _ us hl => match us, hl with | [_, _], _ => rfl⟩
  try dsimp only [cxOf, Cx.nox, Cx.wish]
  obtain ⟨n, d, rfl, hn, hd, k⟩ := h
  change DS _ _ [_, _, .no, .no, .no] _
  walk_at "dd"
  rcases seq_cases d with ⟨e1, e2⟩ | ⟨xs, hs, e2⟩
  · refine ite_t (by rw [e1]; rfl) ?_
    walk_at "dd"
    have : wd n d = some (0, ("many" : Str)) := by unfold wd; rw [e2]
    rw [this] at k
    exact k
  refine ite_f (by rw [isLT_seq hs]; rfl) ?_
  walk_at "dd"
  refine .inl ⟨_, hs, ?_⟩
  walk_at "dd"
  by_cases hl : n < xs.length
  · refine ite_t (decide_eq_true (by omega)) ?_
    walk_at "dd"
    have : wd n d = some (0, ("many" : Str)) := by unfold wd; rw [e2]; exact if_pos hl
    rw [this] at k
    exact k
  have hw : wd n d = wdL n (-1) 0 xs := by unfold wd; rw [e2]; exact if_neg hl
  rw [hw] at k
  refine ite_f (decide_eq_false (by omega)) (ds_next ?_)
  refine ds_seq (ds_set rfl ?_)
  walk_at "dd"
  walk_at "set"
  refine ds_forR1 (fun i ρ => ∃ (ah : Int) (x3 x4 : Sl), wdL n ah i (xs.drop i) = wdL n (-1) 0 xs ∧ ρ = [.dt (.int n), .dt d, .dt (.int ah), x3, x4]) ?_
  walk_at "dd"
  refine .inl ⟨_, hs, ?_⟩
  walk_at "dd"
  refine ⟨bR_small (by omega) (by omega), ⟨-1, _, _, rfl, rfl⟩, ?_, ?_⟩
  · rintro i ρ hi ⟨ah, x3, x4, hq, rfl⟩
    obtain ⟨x, hx⟩ : ∃ x, xs[i]? = some x := ⟨xs[i]'(by omega), List.getElem?_eq_getElem _⟩
    have hsx := shD_seq hd hs (List.mem_of_getElem? hx)
    rw [drop_at hx] at hq
    refine dg_name0 rfl ?_
    walk_at "set"
    walk_at "dd"
    refine ⟨_, _, _, hs, rfl, atI_nat hx, ?_⟩
    walk_at "set"
    walk_at "dd"
    have bad : okE n x = none → Q (.tup [.int i, .str "value"]) := fun z => by
      rw [wdL_no z] at hq
      rw [← hq] at k
      exact k
    rcases entry_cases x with ⟨c1, c2⟩ | ⟨ys, c1, c3, c2⟩ | ⟨a, b, c1, c2⟩
    · refine ite_t (by rw [c1]; rfl) ?_
      walk_at "dd"
      exact bad (okE_pr c2)
    · refine ite_f (by rw [isLT_seq c1]; rfl) ?_
      walk_at "dd"
      refine .inl ⟨_, c1, ?_⟩
      walk_at "dd"
      rw [deq_int]
      refine ite_t (by simp; omega) ?_
      walk_at "dd"
      exact bad (okE_pr c2)
    · have ha : shD a := shD_seq hsx c1 (by simp)
      have hb : shD b := shD_seq hsx c1 (by simp)
      refine ite_f (by rw [isLT_seq c1]; rfl) ?_
      walk_at "dd"
      refine .inl ⟨_, c1, ?_⟩
      walk_at "dd"
      rw [deq_int]
      refine ite_f rfl ?_
      walk_at "dd"
      refine ⟨_, _, _, c1, rfl, rfl, ha, ?_⟩
      walk_at "dd"
      rcases int_or a with ⟨v, rfl⟩ | ⟨na, nb⟩
      · refine ite_f rfl ?_
        walk_at "dd"
        refine ⟨_, _, _, c1, rfl, rfl, ha, ?_⟩
        walk_at "dd"
        refine ite_f rfl ?_
        walk_at "dd"
        refine ⟨_, _, _, c1, rfl, rfl, ?_⟩
        walk_at "dd"
        have eo := okE_at (n := n) c2
        by_cases h0 : 0 ≤ v
        case neg =>
          refine ite_f (decide_eq_false h0) ?_
          walk_at "dd"
          exact bad (by rw [eo, if_neg (fun z => h0 z.1.1)])
        refine ite_t (decide_eq_true h0) ?_
        walk_at "dd"
        by_cases h1 : v < n
        case neg =>
          refine ite_t (by rw [decide_eq_false h1]; rfl) ?_
          walk_at "dd"
          exact bad (by rw [eo, if_neg (fun z => h1 z.1.2)])
        refine ite_f (by rw [decide_eq_true h1]; rfl) ?_
        walk_at "dd"
        refine ⟨_, _, _, c1, rfl, rfl, ?_⟩
        walk_at "dd"
        refine ⟨b, rfl, hb, ?_⟩
        walk_at "dd"
        cases hr' : isRt b with
        | false =>
          walk_at "dd"
          exact bad (by rw [eo, if_neg (fun z => by rw [hr'] at z; cases z.2)])
        | true =>
          rw [if_pos ⟨⟨h0, h1⟩, hr'⟩] at eo
          rw [wdL_yes eo] at hq
          walk_at "dd"
          refine ⟨_, _, _, c1, rfl, rfl, ?_⟩
          walk_at "dd"
          by_cases h2 : v ≤ ah
          · refine ite_t (decide_eq_true h2) ?_
            walk_at "dd"
            rw [if_pos h2] at hq
            rw [← hq] at k
            exact k
          · refine ite_f (decide_eq_false h2) ?_
            walk_at "dd"
            refine ⟨_, _, _, c1, rfl, rfl, ?_⟩
            walk_at "set"
            rw [if_neg h2] at hq
            exact ⟨_, _, _, hq, rfl⟩
      · cases e : isBl a with
        | true =>
          walk_at "dd"
          exact bad (okE_int c2 na)
        | false =>
          walk_at "dd"
          refine ⟨_, _, _, c1, rfl, rfl, ha, ?_⟩
          walk_at "dd"
          rcases nb with nb | nb
          · rw [e] at nb; cases nb
          refine ite_t (by rw [nb]; rfl) ?_
          walk_at "dd"
          exact bad (okE_int c2 na)
  · rintro ρ ⟨ah, x3, x4, hq, rfl⟩
    rw [show ((xs.length : Nat) : Int).toNat = xs.length from rfl, List.drop_length, wdL] at hq
    rw [← hq] at k
    walk_at "dd"
    exact k
theorem ok_check_known {fB : Addr} (T : Txt K mg CL CC CB) (B : PySem.BadX.BadTxt P K mg CB fB) (D : Def K mg "check_known" s_check_known) (C_is_section : Cal P w K mg base "is_section" 2 ["count", "section"] (spD K p_is_section)) (C_is_ratio : Cal P w K mg base "is_ratio" 2 ["thing"] (spD K p_is_ratio))  (C_Limits_len : CalLen P w K mg base CL) :
    CalX P w K mg base CB "check_known" 7 ["limits", "known"] (p_check_known CL) := by
  obtain ⟨f, fd, F, hg⟩ := D
  refine ⟨f, fd, ok_X (k := 6) F sc_check_known (fun ds R Rx h => len_check_known h) (fun cdv A outer s H E hr => ⟨_, (pss_cons (ps_if (PW.pt (pw_or (pt_not (pt_tru (pe_isiT T.bi (pv 1) (pe_tup (pa_cons (pe_tyList T.bi) (pa_cons (pe_tyTuple T.bi) pa_nil)))))) (pw_or1 (pt_cmpR op_gt (pe_len T.bi (pv 1)) (pe_lenLim T C_Limits_len hr (by decide) (pv 0)) (nomark _))))) (pss_one (ps_raise rfl (takes_of rfl rfl rfl rfl) (pmk_bad B hr (by exact (pa_cons pe_int (pa_cons pe_str pa_nil)))))) pss_nil)
    (pss_cons (ps_set (i := 2) sc_check_known.nd rfl (Or.inl rfl) (pe_lst pa_nil))
    (pss_cons (ps_for (passes_of rfl) rfl (pi_range1 rfl T.bi.range (pa_cons (pe_len T.bi (pv 1)) pa_nil)) (pg_name (i := 3) sc_check_known.nd rfl (Or.inl rfl)) (pss_cons (ps_set (i := 4) sc_check_known.nd rfl (Or.inl rfl) (pe_ix ix_seq (pv 1) (pv 3) (fun _ _ => rfl)))
    (pss_cons (ps_if (PW.pt (pw_or (pt_not (pt_tru (pe_isiT T.bi (pv 4) (pe_tup (pa_cons (pe_tyList T.bi) (pa_cons (pe_tyTuple T.bi) pa_nil)))))) (pw_or1 (pt_cmpR (op_neD hr.units) (pe_len T.bi (pv 4)) pe_int (nomark _))))) (pss_one (ps_raise rfl (takes_of rfl rfl rfl rfl) (pmk_bad B hr (by exact (pa_cons (pv 3) (pa_cons pe_str pa_nil)))))) pss_nil)
    (pss_cons (ps_if (PW.pt (pw_or (pt_not (pt_tru (pe_cal C_is_section hr (by decide) rfl (pa_cons (pe_lenLim T C_Limits_len hr (by decide) (pv 0)) (pa_cons (pe_ix ix_seq (pv 4) pe_int (fun _ _ => rfl)) pa_nil))))) (pw_or1 (pt_not (pt_tru (pe_cal C_is_ratio hr (by decide) rfl (pa_cons (pe_ix ix_seq (pv 4) pe_int (fun _ _ => rfl)) pa_nil))))))) (pss_one (ps_raise rfl (takes_of rfl rfl rfl rfl) (pmk_bad B hr (by exact (pa_cons (pv 3) (pa_cons pe_str pa_nil)))))) pss_nil)
    (pss_cons (ps_if (PW.pt (pw_and (pt_cmpR (op_neD hr.units) (pv 2) (pe_lst pa_nil) (nomark _)) (pw_and1 (pt_cmpR op_ge (pe_ix ix_seq (pe_ix ix_seq (pv 2) (pe_un un_neg pe_int) (fun _ _ => rfl)) pe_int (fun _ _ => rfl)) (pe_ix ix_seq (pv 4) pe_int (fun _ _ => rfl)) (nomark _))))) (pss_one (ps_raise rfl (takes_of rfl rfl rfl rfl) (pmk_bad B hr (by exact (pa_cons (pv 3) (pa_cons pe_str pa_nil)))))) pss_nil)
    (pss_one (ps_expr (pe_bm PySem.F.plainAttrs_list PySem.F.slot_list_append PySem.F.type_list_append mt_append (pv 2) (pa_cons (pe_tup (pa_cons (pe_ix ix_seq (pv 4) pe_int (fun _ _ => rfl)) (pa_cons (pe_ix ix_seq (pv 4) pe_int (fun _ _ => rfl)) pa_nil))) pa_nil)))))))))
    (pss_one (ps_ret (pe_tuple T.bi (pv 2))))))), fun G0 H0 ds R Rx h xk => ?_⟩), hg, F.kp, F.binds fun _ _ _ _ _ _ us hl => match us, hl with | [_, _], _ => rfl⟩
  try dsimp only [cxOf, Cx.wish]
  obtain ⟨n, m, st, d, rfl, hn, hd, k1, k2⟩ := h
  change DS _ _ [_, _, .no, .no, .no] _
  walk_at "dd"
  rcases seq_cases d with ⟨e1, e2⟩ | ⟨xs, hs, e2⟩
  · refine ite_t (by rw [e1]; rfl) ?_
    refine ds_raise xk ?_
    walk_at "dd"
    exact ⟨_, _, rfl, k2 0 "many" (by unfold wd; rw [e2])⟩
  refine ite_f (by rw [isLT_seq hs]; rfl) ?_
  walk_at "dd"
  refine .inl ⟨_, hs, ?_⟩
  walk_at "dd"
  refine ⟨n, m, st, rfl, hn, ?_⟩
  walk_at "dd"
  by_cases hl : n < xs.length
  · refine ite_t (decide_eq_true (by omega)) ?_
    refine ds_raise xk ?_
    walk_at "dd"
    exact ⟨_, _, rfl, k2 0 "many" (by unfold wd; rw [e2]; exact if_pos hl)⟩
  have hw : wd n d = wdL n (-1) 0 xs := by unfold wd; rw [e2]; exact if_neg hl
  rw [hw] at k1
  rw [hw] at k2
  have hres : resD n d = .tup (vals n xs) := by unfold resD; rw [e2]; rfl
  rw [hres] at k1
  refine ite_f (decide_eq_false (by omega)) (ds_next ?_)
  refine ds_seq (ds_own rfl (dl_lst ?_))
  walk_at "dd"
  walk_at "set"
  refine ds_forR1 (fun i ρ => ∃ (ah : Int) (x3 x4 : Sl), wdL n ah i (xs.drop i) = wdL n (-1) 0 xs ∧ ((vals n (xs.take i) = [] ∧ ah = -1) ∨ ∃ ys b, vals n (xs.take i) = ys ++ [.tup [.int ah, b]]) ∧ ρ = [.dt (limO CL n m st), .dt d, .own (vals n (xs.take i)), x3, x4]) ?_
  walk_at "dd"
  refine .inl ⟨_, hs, ?_⟩
  walk_at "dd"
  refine ⟨bR_small (by omega) (by omega), ⟨-1, _, _, rfl, .inl ⟨rfl, rfl⟩, rfl⟩, ?_, ?_⟩
  · rintro i ρ hi ⟨ah, x3, x4, hq, hlast, rfl⟩
    obtain ⟨x, hx⟩ : ∃ x, xs[i]? = some x := ⟨xs[i]'(by omega), List.getElem?_eq_getElem _⟩
    have hsx := shD_seq hd hs (List.mem_of_getElem? hx)
    have hvl := vals_len n (xs.take i)
    rw [List.length_take] at hvl
    rw [drop_at hx] at hq
    refine dg_name0 rfl ?_
    walk_at "set"
    walk_at "dd"
    refine ⟨_, _, _, hs, rfl, atI_nat hx, ?_⟩
    walk_at "set"
    walk_at "dd"
    have bad : okE n x = none → Rx (.int i) (.str "value") := fun z => by
      rw [wdL_no z] at hq
      exact k2 i "value" hq.symm
    rcases entry_cases x with ⟨c1, c2⟩ | ⟨ys, c1, c3, c2⟩ | ⟨a, b, c1, c2⟩
    · refine ite_t (by rw [c1]; rfl) ?_
      refine ds_raise xk ?_
      walk_at "dd"
      exact ⟨_, _, rfl, bad (okE_pr c2)⟩
    · refine ite_f (by rw [isLT_seq c1]; rfl) ?_
      walk_at "dd"
      refine .inl ⟨_, c1, ?_⟩
      walk_at "dd"
      rw [deq_int]
      refine ite_t (by simp; omega) ?_
      refine ds_raise xk ?_
      walk_at "dd"
      exact ⟨_, _, rfl, bad (okE_pr c2)⟩
    · have ha : shD a := shD_seq hsx c1 (by simp)
      have hb : shD b := shD_seq hsx c1 (by simp)
      refine ite_f (by rw [isLT_seq c1]; rfl) ?_
      walk_at "dd"
      refine .inl ⟨_, c1, ?_⟩
      walk_at "dd"
      rw [deq_int]
      refine ite_f rfl ?_
      walk_at "dd"
      refine ⟨n, m, st, rfl, hn, ?_⟩
      walk_at "dd"
      refine ⟨_, _, _, c1, rfl, rfl, ?_⟩
      walk_at "dd"
      refine ⟨n, a, rfl, ha, ?_⟩
      walk_at "dd"
      rcases int_or a with ⟨v, rfl⟩ | ⟨na, nb⟩
      case inr =>
        refine ite_t (by rw [isWh_no na]; rfl) ?_
        refine ds_raise xk ?_
        walk_at "dd"
        exact ⟨_, _, rfl, bad (okE_int c2 na)⟩
      have eo := okE_at (n := n) c2
      have ew : isWh (.int v) (some 0) (some ((n : Int) - 1)) = (decide (0 ≤ v) && decide (v ≤ (n : Int) - 1)) := rfl
      by_cases h0 : 0 ≤ v ∧ v < n
      case neg =>
        refine ite_t (by rw [ew]; simp; omega) ?_
        refine ds_raise xk ?_
        walk_at "dd"
        exact ⟨_, _, rfl, bad (by rw [eo, if_neg (fun z => h0 z.1)])⟩
      refine ite_f (by rw [ew]; simp; omega) ?_
      walk_at "dd"
      refine ⟨_, _, _, c1, rfl, rfl, ?_⟩
      walk_at "dd"
      refine ⟨b, rfl, hb, ?_⟩
      walk_at "dd"
      cases hr' : isRt b with
      | false =>
        refine ite_t rfl ?_
        refine ds_raise xk ?_
        walk_at "dd"
        exact ⟨_, _, rfl, bad (by rw [eo, if_neg (fun z => by rw [hr'] at z; cases z.2)])⟩
      | true =>
        rw [if_pos ⟨h0, hr'⟩] at eo
        rw [wdL_yes eo] at hq
        refine ite_f rfl (ds_next ?_)
        refine ds_seqI (fun ρ => ah < v ∧ ρ = [.dt (limO CL n m st), .dt d, .own (vals n (xs.take i)), .dt (.int i), .dt x]) ?_ ?_
        · walk_at "dd"
          refine ⟨⟨3, by decide, vals_sh n _⟩, ?_⟩
          walk_at "dd"
          refine ⟨⟨1, by decide, by simp [sh, shAll]⟩, ?_⟩
          walk_at "dd"
          rw [lst_ne]
          rcases hlast with ⟨v1, v2⟩ | ⟨ys, b', v1⟩
          · rw [v1]
            refine ite_f rfl ?_
            refine ite_f rfl ?_
            walk_at "dd"
            exact ⟨by omega, rfl⟩
          · rw [v1]
            refine ite_t (by cases ys <;> rfl) ?_
            walk_at "dd"
            refine ⟨_, _, rfl, atI_last _ _, ?_⟩
            walk_at "dd"
            refine ⟨_, _, _, c1, rfl, rfl, ?_⟩
            walk_at "dd"
            by_cases h2 : v ≤ ah
            · refine ite_t (decide_eq_true h2) ?_
              refine ds_raise xk ?_
              walk_at "dd"
              rw [if_pos h2] at hq
              exact ⟨_, _, rfl, k2 i "rising" hq.symm⟩
            · refine ite_f (decide_eq_false h2) ?_
              walk_at "dd"
              exact ⟨by omega, rfl⟩
        · rintro ρ ⟨h2, rfl⟩
          rw [if_neg (by omega)] at hq
          refine ds_app rfl (by omega) ?_
          walk_at "dd"
          refine ⟨_, _, _, c1, rfl, rfl, ?_⟩
          walk_at "dd"
          refine ⟨_, _, _, c1, rfl, rfl, ?_⟩
          walk_at "dd"
          walk_at "set"
          have vn := vals_next hx eo
          exact ⟨v, _, _, hq, .inr ⟨_, b, vn⟩, by rw [vn]⟩
  · rintro ρ ⟨ah, x3, x4, hq, hlast, rfl⟩
    rw [show ((xs.length : Nat) : Int).toNat = xs.length from rfl, List.drop_length, wdL] at hq
    rw [show ((xs.length : Nat) : Int).toNat = xs.length from rfl, List.take_length]
    walk_at "dd"
    exact k1 hq.symm
end
end K20
namespace K20
open PySem L2
open Evl (Ex)
open PyProof.Rows (envOfC)
/-! F13: the greatest hum through known values. -/
def p_hum_through (CL CC : Addr) (ds : List Dt) (R : Dt → Prop) (Rx : Dt → Dt → Prop) : Prop := ∃ (n : Nat) (m st : Nat → Option Rat) (D : Nat) (d : Dt), ds = [limO CL n m st, d] ∧ LimOk n m st D ∧ shD d ∧ (∀ i w, wd n d = some (i, w) → Rx (.int i) (.str w)) ∧
  (wd n d = none → ∃ ks, resD n d = kn ks ∧ KnOk n ks D 60 ∧ (∀ p, clashF n m st ks = some p → R (clD CC (some p))) ∧ (clashF n m st ks = none → R (hm n (dueF n m st ks))))
theorem len_hum_through {CL CC : Addr} {ds : List Dt} {R : Dt → Prop} {Rx : Dt → Dt → Prop} (h : p_hum_through CL CC ds R Rx) : ds.length = 2 := by
  obtain ⟨_, _, _, _, _, rfl, _⟩ := h; rfl
theorem led_past {n : Nat} {s st : Nat → Option Rat} {k : Nat} (h : n ≤ k) : ledF n s st k = ledF n s st (n - 1) := by
  unfold ledF
  rw [show n - 1 - k = 0 by omega, show n - 1 - (n - 1) = 0 by omega]
theorem val_take {n : Nat} {ks : List (Nat × Rat)} (h : KnSt n ks) {j : Nat} {p : Nat × Rat} (hp : ks[j]? = some p) (k : Nat) : valF (ks.take (j + 1)) k = if k = p.1 then some p.2 else valF (ks.take j) k := by
  unfold valF
  rw [List.take_add_one, hp, List.find?_append]
  by_cases e : k = p.1
  · subst e
    have hn : (ks.take j).find? (fun q => q.1 == p.1) = none := by
      rw [List.find?_eq_none]
      intro q hq z
      obtain ⟨i, hi, e⟩ := List.getElem_of_mem hq
      rw [List.length_take] at hi
      rw [List.getElem_take] at e
      obtain ⟨hj, e2⟩ := List.getElem?_eq_some_iff.mp hp
      have := List.pairwise_iff_getElem.mp h.1 i j (by omega) hj (by omega)
      rw [e, e2] at this
      have z : q.1 = p.1 := by simpa using z
      omega
    rw [hn, if_pos rfl]
    simp
  · rw [if_neg e]
    have : (p.1 == k) = false := by simp; omega
    cases h : (ks.take j).find? (fun q => q.1 == k) <;> simp [this]
def startG (n : Nat) (m st : Nat → Option Rat) (ks : List (Nat × Rat)) (j k : Nat) : Option Rat := startF n m st (ks.take j) k
theorem start_next {n : Nat} {m st : Nat → Option Rat} {ks : List (Nat × Rat)} (h : KnSt n ks) {j : Nat} {p : Nat × Rat} (hp : ks[j]? = some p) : ∀ k, k < n → (if k = p.1 then some p.2 else startG n m st ks j k) = startG n m st ks (j + 1) k := fun k _ => by
  unfold startG startF
  rw [val_take h hp]
  split <;> rfl
theorem start_ni {n D c : Nat} {m st : Nat → Option Rat} {ks : List (Nat × Rat)} (l : LimOk n m st D) (kk : KnOk n ks D c) : NiF D (c + 25) (startF n m st ks) := fun k => by
  unfold startF
  cases e : valF ks k with
  | some v => exact (NiB.some (kk.ni _ (val_mem (n := n) e))).mono (by omega)
  | none =>
    have h1 := l.n1
    by_cases hk : k < n
    · exact (l.led hk).mono (by omega)
    · rw [led_past (by omega)]
      exact (l.led (by omega)).mono (by omega)
local macro_rules | `(tactic| walk_at "d1") => `(tactic| first
  | with_reducible refine ds_seq ?_
  | with_reducible refine dsr_seq ?_
  | with_reducible refine ds_ret ?_
  | with_reducible refine ds_retN ?_
  | with_reducible refine ds_next ?_
  | with_reducible refine ds_own rfl (dl_list ?_)
  | with_reducible refine ds_own rfl (dl_lst ?_)
  | with_reducible refine ds_app rfl ?_ ?_
  | with_reducible refine ds_put rfl ?_
  | with_reducible refine ds_set rfl ?_
  | with_reducible refine ds_asg ?_
  | with_reducible refine ds_if ?_
  | with_reducible refine ds_par rfl rfl ?_
  | with_reducible refine de_var rfl ?_
  | with_reducible refine de_int ?_
  | with_reducible refine de_bl ?_
  | with_reducible refine de_non ?_
  | with_reducible refine de_str ?_
  | with_reducible refine de_add ?_
  | with_reducible refine de_mul ?_
  | with_reducible refine de_ix_own rfl ?_
  | with_reducible refine de_ix ?_
  | with_reducible refine de_call ?_
  | with_reducible refine de_callH rfl ?_
  | with_reducible refine de_callD (dds := [.non, .non]) (fun _ => .cons .non (.cons .non .nil)) ?_
  | with_reducible refine de_callD (dds := [.non]) (fun _ => .cons .non .nil) ?_
  | with_reducible refine de_chainI ?_
  | with_reducible refine de_opI0 ?_
  | with_reducible refine de_opI ?_
  | with_reducible refine de_opB0 ?_
  | with_reducible refine de_isN ?_
  | with_reducible refine de_notN ?_
  | with_reducible refine de_eqD ?_
  | with_reducible refine de_ne_own rfl ?_
  | with_reducible refine de_neD ?_
  | with_reducible refine de_neg ?_
  | with_reducible refine de_len_own rfl ?_
  | with_reducible refine de_len ?_
  | with_reducible refine de_int1 ?_
  | with_reducible refine de_abs ?_
  | with_reducible refine de_min2 ?_
  | with_reducible refine de_max2 ?_
  | with_reducible refine de_tuple_own rfl ?_
  | with_reducible refine de_tup ?_
  | with_reducible refine de_if ?_
  | with_reducible refine de_isBl ?_
  | with_reducible refine de_isIn ?_
  | with_reducible refine de_isTu ?_
  | with_reducible refine de_isLT ?_
  | with_reducible refine de_andV ?_
  | with_reducible refine de_orV ?_
  | with_reducible refine de_notT ?_
  | with_reducible refine de_fld ?_
  | with_reducible refine de_slice ?_
  | with_reducible refine do_none ?_
  | with_reducible refine do_some ?_
  | with_reducible refine dt_test ?_
  | with_reducible refine dt_tru ?_
  | with_reducible refine dt_and ?_
  | with_reducible refine dt_or ?_
  | with_reducible refine dt_not ?_
  | with_reducible refine da_cons ?_
  | with_reducible refine da_nil ?_
  | with_reducible refine de_lst ?_
  | with_reducible refine de_of_dl (dl_list ?_)
  | with_reducible refine de_mkLimits ?_
  | with_reducible refine de_mkClash ?_
  | with_reducible refine de_lenLim ?_)
local macro_rules | `(tactic| walk_at "d2") => `(tactic| first
  | walk_at "d1"
  | with_reducible refine iteT ?_
  | with_reducible refine iteF ?_
  | with_reducible refine ite_f Bool.not_true ?_
  | with_reducible refine ite_t Bool.not_false ?_
  | (with_reducible refine Exists.intro _ (Exists.intro _ (And.intro rfl (And.intro rfl ?_))))
  | (with_reducible refine Exists.intro _ (And.intro rfl ?_))
  | (with_reducible refine .inl (Exists.intro _ (Exists.intro _ (And.intro rfl (And.intro rfl ?_)))))
  | (refine ⟨_, _, _, .inr rfl, rfl, rfl, ?_⟩)
  | (refine ⟨Nat.le_of_ble_eq_true rfl, ?_⟩)
  | (with_reducible refine And.intro rfl ?_)
  | (with_reducible refine And.intro (by walk_at "mul") ?_)
  | (with_reducible refine And.intro (by walk_at "shd") ?_))
local macro_rules | `(tactic| walk_at "dd") => `(tactic| (repeat walk_at "d2"))
local macro_rules | `(tactic| walk_at "set") => `(tactic| simp only [List.set_cons_zero, List.set_cons_succ])
local macro_rules | `(tactic| walk_at "mul") => `(tactic| first
  | exact mul_nd (by assumption) (by assumption) | exact mul_nn (by assumption) (by assumption) | exact mul_dd (by assumption) (by assumption))
local macro_rules | `(tactic| walk_at "shd") => `(tactic| first
  | exact shD_int _ | exact shD_non | exact shD_rat _ | exact shD_tupTab _ _ | with_reducible assumption)
local macro_rules | `(tactic| walk_at "tg") => `(tactic| refine dg_tup ⟨_, rfl, rfl, dgs_cons (dg_name0 rfl (dgs_cons (dg_name0 rfl (dgs_nil ?_))))⟩)
local macro_rules | `(tactic| walk_at "wp") => `(tactic| simp only [wipeD, List.map_cons, List.map_nil, List.set_cons_zero, List.set_cons_succ])
section
variable {P : Program} {w : World} {K : PySem.W.Frag} {mg : Str → Option Value} {base : Heap} {CL CC CB : Addr}
theorem ok_hum_through {fB : Addr} (T : Txt K mg CL CC CB) (B : PySem.BadX.BadTxt P K mg CB fB) (D : Def K mg "hum_through" s_hum_through) (C_check_known : CalX P w K mg base CB "check_known" 7 ["limits", "known"] (p_check_known CL)) (C_tighten : Cal P w K mg base "tighten" 6 ["limits"] (spD K (p_tighten CL))) (C_clash_of : Cal P w K mg base "clash_of" 6 ["tight", "steps", "values"] (spD K (p_clash_of CL CC))) (C_led_along : Cal P w K mg base "led_along" 5 ["starts", "steps"] (spD K p_led_along))  :
    CalX P w K mg base CB "hum_through" 8 ["limits", "known"] (p_hum_through CL CC) := by
  obtain ⟨az, hZero, rZero⟩ := T.zero
  obtain ⟨f, fd, F, hg⟩ := D
  refine ⟨f, fd, ok_X (k := 7) F sc_hum_through (fun ds R Rx h => len_hum_through h) (fun cdv A outer s H E hr => ⟨_, (pss_cons (ps_set (i := 2) sc_hum_through.nd rfl (Or.inl rfl) (pe_calX C_check_known hr (by decide) rfl (fun σ => passAt (takes_of rfl rfl rfl rfl) σ) (pa_cons (pv 0) (pa_cons (pv 1) pa_nil))))
    (pss_cons (ps_set (i := 3) sc_hum_through.nd rfl (Or.inl rfl) (pe_cal C_tighten hr (by decide) rfl (pa_cons (pv 0) pa_nil)))
    (pss_cons (ps_set (i := 4) sc_hum_through.nd rfl (Or.inl rfl) (pe_cal C_clash_of hr (by decide) rfl (pa_cons (pv 3) (pa_cons (pe_fld (pv 0) rfl) (pa_cons (pv 2) pa_nil)))))
    (pss_cons (ps_if (pt_cmpR op_notN (pv 4) pe_non (nomark _)) (pss_one (ps_ret (pv 4))) pss_nil)
    (pss_cons (ps_set (i := 5) sc_hum_through.nd rfl (Or.inl rfl) (pe_list T.bi (pe_fld (pv 3) rfl)))
    (pss_cons (ps_for (passes_of rfl) rfl (pi_tup (pv 2)) (pg_tup rfl (pgs_cons (pg_name (i := 6) sc_hum_through.nd rfl (Or.inl rfl)) (pgs_cons (pg_name (i := 7) sc_hum_through.nd rfl (Or.inl rfl)) pgs_nil))) (pss_one (ps_asg (pv 7) (pg_sub (pv 5) (pv 6) set_list))))
    (pss_one (ps_ret (pe_tuple T.bi (pe_lc (own := [("one", 8)]) (g := gName 8) rfl sc_hum_through.nd (pi_list (pe_cal C_led_along hr (by decide) rfl (pa_cons (pv 5) (pa_cons (pe_fld (pv 0) rfl) pa_nil)))) (blkOk_by (own := [("one", 8)]) (N := ["limits", "known", "values", "tight", "clash", "starts", "section", "value", "one"]) (sc := defScope s_hum_through) (by decide +kernel)) (fun _ _ _ _ _ => (pg_name (i := 8) sc_hum_through.nd rfl (Or.inl rfl))) (fun _ _ _ _ _ => pts_nil) (fun _ _ _ _ _ => (pe_ifExp (pt_cmpR op_isN (pv 8) pe_non (nomark _)) (pe_glob (v := .ref az) rfl hZero rfl) (pv 8))))))))))))), fun G0 H0 ds R Rx h xk => ?_⟩), hg, F.kp, F.binds fun _ _ _ _ _ _ us hl => match us, hl with | [_, _], _ => rfl⟩
  try dsimp only [cxOf, Cx.wish]
  obtain ⟨n, m, st, D, d, rfl, l, hd, k2, k1⟩ := h
  change DS _ _ [_, _, .no, .no, .no, .no, .no, .no, .no] _
  have hn1 := l.n1
  have hn2 := l.n2
  refine ds_seq (ds_set rfl (de_callX1 xk ?_))
  walk_at "dd"
  refine ⟨n, m, st, d, rfl, hn2, hd, fun hw => ?_, k2⟩
  obtain ⟨ks, hres, kk, kc, kd⟩ := k1 hw
  rw [hres]
  walk_at "set"
  walk_at "dd"
  refine ⟨n, m, st, D, rfl, l, ?_⟩
  walk_at "set"
  walk_at "dd"
  refine ⟨CL, _, _, _, rfl, T.oL.cl, T.nSteps, rfl, ?_⟩
  walk_at "dd"
  refine ⟨n, ledF n m st, st, tightS n m st, ks, D, 60, rfl, hn2, l.gr, l.ns, fun j hj => l.led hj, kk, ?_⟩
  rw [← clashF_eq]
  walk_at "set"
  walk_at "dd"
  cases ec : clashF n m st ks with
  | some p =>
    refine ite_t rfl ?_
    walk_at "dd"
    exact kc p ec
  | none =>
    refine ite_f rfl (ds_next ?_)
    refine ds_seq (ds_own rfl (dl_list ?_))
    walk_at "dd"
    refine ⟨CL, _, _, _, rfl, T.oL.cl, T.nMosts, rfl, ?_⟩
    refine ⟨_, .inr rfl, ?_⟩
    walk_at "set"
    refine ds_seq ?_
    refine ds_forT (fun xs j ρ => ∃ x6 x7, ρ = [.dt (limO CL n m st), .dt d, .dt (kn ks), .dt (limO CL n (ledF n m st) (tightS n m st)), .dt (clD CC none), .own (tab n (startG n m st ks j)), x6, x7, .no]) ?_
    refine de_var rfl ⟨_, rfl, ⟨_, _, rfl⟩, ?_, ?_⟩
    · rintro j y ρ hy ⟨x6, x7, rfl⟩
      obtain ⟨p, hp, rfl⟩ := kn_get hy
      have hpn := kk.st.2 p (List.mem_of_getElem? hp)
      walk_at "tg"
      walk_at "set"
      walk_at "dd"
      refine ⟨_, p.1, rfl, by rw [tab_len]; unfold ixN; rw [if_pos (by omega), if_pos (by omega)]; congr 1, ?_⟩
      walk_at "set"
      rw [show rat p.2 = bd (some p.2) from rfl, tab_set_to (startG n m st ks (j + 1)) (v := some p.2) (start_next kk.st hp)]
      exact ⟨_, _, rfl⟩
    · rintro ρ ⟨x6, x7, rfl⟩
      refine ds_freeze (i := 5) rfl ?_
      walk_at "set"
      rw [List.length_map]
      have efull : startG n m st ks ks.length = startF n m st ks := by
        funext k
        unfold startG
        rw [List.take_length]
      rw [efull]
      have nsF := start_ni l kk
      have due := fun k (hk : k < n) => start_due (m := m) l.ps kk.st (clash_none ec) hk
      refine ds_ret ?_
      refine de_tuple_dl ?_
      refine dl_lcL hw_name (fun xs i acc => acc = tab i fun k => some (dueF n m st ks k)) ?_
      walk_at "dd"
      refine ⟨CL, _, _, _, rfl, T.oL.cl, T.nSteps, rfl, ?_⟩
      walk_at "dd"
      refine ⟨_, n, startF n m st ks, st, D, 85, rfl, .inl rfl, hn1, hn2, l.gr, nsF, l.ns, by decide, l.ps, ?_⟩
      refine ⟨_, .inl rfl, rfl, ?_, ?_⟩
      · rintro i x acc hx rfl
        have hin : i < n := by
          have := (List.getElem?_eq_some_iff.mp hx).1
          rwa [tab_len] at this
        rw [tab_get _ hin] at hx
        cases hx
        rw [due i hin]
        refine dlt_yes ?_
        refine dg_name0 rfl ?_
        walk_at "wp"
        walk_at "dd"
        rw [isNon_bd]
        have fin : bd (some (dueF n m st ks i)) = match dueB n m st ks i with | none => rat 0 | some b => rat b := by
          unfold dueF
          cases dueB n m st ks i <;> rfl
        cases e : dueB n m st ks i with
        | none =>
          refine ite_t rfl ?_
          refine de_const rZero ?_
          refine ⟨by rw [tab_len]; omega, ?_⟩
          rw [tab_succ, fin, e]
        | some b =>
          refine ite_f rfl ?_
          walk_at "dd"
          refine ⟨by rw [tab_len]; omega, ?_⟩
          rw [tab_succ, fin, e]
          rfl
      · rintro acc rfl
        rw [tab_len]
        exact kd ec
end
end K20
namespace K20
open PySem L2
open Evl (Ex)
open PyProof.Rows (envOfC)
/-! F14: what is refused. -/
def p_law_refused (CL : Addr) (ds : List Dt) (Q : Dt → Prop) : Prop := ∃ (n : Nat) (m st : Nat → Option Rat) (D : Nat) (d : Dt) (b : Bool), ds = [limO CL n m st, d, .bl b] ∧ LimOk n m st D ∧ shD d ∧ Good D d ∧ (∀ xs, d ≠ .tup xs) ∧ Q (wdD (wd n d))
theorem len_law_refused {CL : Addr} {ds : List Dt} {Q : Dt → Prop} (h : p_law_refused CL ds Q) : ds.length = 3 := by
  obtain ⟨_, _, _, _, _, _, rfl, _⟩ := h; rfl
theorem wdL_kn {n D : Nat} : ∀ {xs : List Dt} {ah : Int} {i : Nat}, wdL n ah i xs = none → Gs D xs → ∃ ks : List (Nat × Rat), vals n xs = ks.map kn1 ∧ ks.Pairwise (fun p q => p.1 < q.1) ∧ (∀ p ∈ ks, p.1 < n ∧ ah < (p.1 : Int) ∧ Ni D 60 p.2) ∧ ks.length = xs.length
  | [], ah, i, _, _ => ⟨[], rfl, List.Pairwise.nil, fun p hp => absurd hp (by simp), rfl⟩
  | x :: xs, ah, i, h, g => by
    cases e : okE n x with
    | none => rw [wdL_no e] at h; cases h
    | some p =>
      obtain ⟨k, b⟩ := p
      rw [wdL_yes e] at h
      split at h
      · cases h
      · rename_i hk
        obtain ⟨e1, e2, e3, e4⟩ := okE_some e
        obtain ⟨q, rfl, hq⟩ := g x (by simp) _ _ e1 e4
        obtain ⟨ks, h1, h2, h3, h4⟩ := wdL_kn (D := D) h (fun y hy => g y (List.mem_cons_of_mem _ hy))
        refine ⟨(k.toNat, q) :: ks, ?_, List.pairwise_cons.mpr ⟨fun p hp => ?_, h2⟩, fun p hp => ?_, by simp [h4]⟩
        · unfold vals at h1 ⊢
          rw [List.filterMap_cons, e, List.map_cons, List.map_cons, h1]
          show Dt.tup [.int k, rat q] :: _ = Dt.tup [.int (k.toNat : Nat), rat q] :: _
          rw [show ((k.toNat : Nat) : Int) = k by omega]
        · have := (h3 p hp).2.1
          show k.toNat < p.1
          omega
        · rcases List.mem_cons.mp hp with rfl | hp
          · exact ⟨by show k.toNat < n; omega, by show ah < ((k.toNat : Nat) : Int); omega, hq⟩
          · exact ⟨(h3 p hp).1, by have := (h3 p hp).2.1; omega, (h3 p hp).2.2⟩
theorem wdL_all {n : Nat} : ∀ {xs : List Dt} {ah : Int} {i : Nat}, wdL n ah i xs = none → ∀ x ∈ xs, ∃ k b, okE n x = some (k, b)
  | [], _, _, _, x, hx => by cases hx
  | y :: ys, ah, i, h, x, hx => by
    cases e : okE n y with
    | none => rw [wdL_no e] at h; cases h
    | some p =>
      obtain ⟨k, b⟩ := p
      rcases List.mem_cons.mp hx with rfl | hx
      · exact ⟨k, b, e⟩
      · rw [wdL_yes e] at h
        split at h
        · cases h
        · exact wdL_all h x hx
theorem wd_seq {n : Nat} {d : Dt} (h : wd n d = none) : ∃ xs, seqOf d = some xs ∧ xs.length ≤ n ∧ wdL n (-1) 0 xs = none := by
  unfold wd at h
  cases e : seqOf d with
  | none => rw [e] at h; cases h
  | some xs =>
    rw [e] at h
    dsimp only at h
    split at h
    · cases h
    · exact ⟨xs, rfl, by omega, h⟩
theorem wd_kn {n D : Nat} {d : Dt} (h : wd n d = none) (g : Good D d) : ∃ ks, resD n d = kn ks ∧ KnOk n ks D 60 := by
  obtain ⟨xs, e, hl, hw⟩ := wd_seq h
  obtain ⟨ks, h1, h2, h3, h4⟩ := wdL_kn hw (g xs e)
  refine ⟨ks, ?_, ⟨h2, fun p hp => (h3 p hp).1⟩, fun p hp => (h3 p hp).2.2, by omega, by decide⟩
  unfold resD kn
  rw [e, ← h1]
  rfl
theorem seq_lst {d : Dt} {xs : List Dt} (h : seqOf d = some xs) (hn : ∀ xs, d ≠ .tup xs) : d = .lst xs := by
  cases d with
  | lst ys => cases h; rfl
  | tup ys => exact absurd rfl (hn ys)
  | _ => cases h
theorem shD_tl {n : Nat} {xs : List Dt} (h : sh n (.lst xs) = true) : sh n (.tup xs) = true := by
  cases n with
  | zero => simp [sh] at h
  | succ n => simpa [sh] using h
theorem pr_seq {x a b : Dt} (h : pr x = some (a, b)) : isSeq x [a, b] := by
  unfold pr at h
  split at h
  · cases h; exact .inl rfl
  · cases h; exact .inr rfl
  · cases h
local macro_rules | `(tactic| walk_at "d1") => `(tactic| first
  | with_reducible refine ds_seq ?_
  | with_reducible refine dsr_seq ?_
  | with_reducible refine ds_ret ?_
  | with_reducible refine ds_retN ?_
  | with_reducible refine ds_next ?_
  | with_reducible refine ds_own rfl (dl_list ?_)
  | with_reducible refine ds_own rfl (dl_lst ?_)
  | with_reducible refine ds_app rfl ?_ ?_
  | with_reducible refine ds_put rfl ?_
  | with_reducible refine ds_set rfl ?_
  | with_reducible refine ds_asg ?_
  | with_reducible refine ds_if ?_
  | with_reducible refine ds_par rfl rfl ?_
  | with_reducible refine de_var rfl ?_
  | with_reducible refine de_int ?_
  | with_reducible refine de_bl ?_
  | with_reducible refine de_non ?_
  | with_reducible refine de_str ?_
  | with_reducible refine de_add ?_
  | with_reducible refine de_mul ?_
  | with_reducible refine de_ix_own rfl ?_
  | with_reducible refine de_ix ?_
  | with_reducible refine de_call ?_
  | with_reducible refine de_callH rfl ?_
  | with_reducible refine de_callD (dds := [.non, .non]) (fun _ => .cons .non (.cons .non .nil)) ?_
  | with_reducible refine de_callD (dds := [.non]) (fun _ => .cons .non .nil) ?_
  | with_reducible refine de_chainI ?_
  | with_reducible refine de_opI0 ?_
  | with_reducible refine de_opI ?_
  | with_reducible refine de_opB0 ?_
  | with_reducible refine de_isN ?_
  | with_reducible refine de_notN ?_
  | with_reducible refine de_eqD ?_
  | with_reducible refine de_ne_own rfl ?_
  | with_reducible refine de_neD ?_
  | with_reducible refine de_neg ?_
  | with_reducible refine de_len_own rfl ?_
  | with_reducible refine de_len ?_
  | with_reducible refine de_int1 ?_
  | with_reducible refine de_abs ?_
  | with_reducible refine de_min2 ?_
  | with_reducible refine de_max2 ?_
  | with_reducible refine de_tuple_own rfl ?_
  | with_reducible refine de_tup ?_
  | with_reducible refine de_if ?_
  | with_reducible refine de_isBl ?_
  | with_reducible refine de_isIn ?_
  | with_reducible refine de_isTu ?_
  | with_reducible refine de_isLT ?_
  | with_reducible refine de_andV ?_
  | with_reducible refine de_orV ?_
  | with_reducible refine de_notT ?_
  | with_reducible refine de_fld ?_
  | with_reducible refine de_slice ?_
  | with_reducible refine do_none ?_
  | with_reducible refine do_some ?_
  | with_reducible refine dt_test ?_
  | with_reducible refine dt_tru ?_
  | with_reducible refine dt_and ?_
  | with_reducible refine dt_or ?_
  | with_reducible refine dt_not ?_
  | with_reducible refine da_cons ?_
  | with_reducible refine da_nil ?_
  | with_reducible refine de_lst ?_
  | with_reducible refine de_of_dl (dl_list ?_)
  | with_reducible refine de_mkLimits ?_
  | with_reducible refine de_mkClash ?_
  | with_reducible refine de_lenLim ?_)
local macro_rules | `(tactic| walk_at "d2") => `(tactic| first
  | walk_at "d1"
  | with_reducible refine iteT ?_
  | with_reducible refine iteF ?_
  | with_reducible refine ite_f Bool.not_true ?_
  | with_reducible refine ite_t Bool.not_false ?_
  | (with_reducible refine Exists.intro _ (Exists.intro _ (And.intro rfl (And.intro rfl ?_))))
  | (with_reducible refine Exists.intro _ (And.intro rfl ?_))
  | (with_reducible refine .inl (Exists.intro _ (Exists.intro _ (And.intro rfl (And.intro rfl ?_)))))
  | (refine ⟨_, _, _, .inr rfl, rfl, rfl, ?_⟩)
  | (refine ⟨Nat.le_of_ble_eq_true rfl, ?_⟩)
  | (with_reducible refine And.intro rfl ?_)
  | (with_reducible refine And.intro (by walk_at "mul") ?_)
  | (with_reducible refine And.intro (by walk_at "shd") ?_))
local macro_rules | `(tactic| walk_at "dd") => `(tactic| (repeat walk_at "d2"))
local macro_rules | `(tactic| walk_at "set") => `(tactic| simp only [List.set_cons_zero, List.set_cons_succ])
local macro_rules | `(tactic| walk_at "mul") => `(tactic| first
  | exact mul_nd (by assumption) (by assumption) | exact mul_nn (by assumption) (by assumption) | exact mul_dd (by assumption) (by assumption))
local macro_rules | `(tactic| walk_at "shd") => `(tactic| first
  | exact shD_int _ | exact shD_non | exact shD_rat _ | exact shD_tupTab _ _ | with_reducible assumption)
local macro_rules | `(tactic| walk_at "tg") => `(tactic| refine dg_tup ⟨_, rfl, rfl, dgs_cons (dg_name0 rfl (dgs_cons (dg_name0 rfl (dgs_nil ?_))))⟩)
local macro_rules | `(tactic| walk_at "wp") => `(tactic| simp only [wipeD, List.map_cons, List.map_nil, List.set_cons_zero, List.set_cons_succ])
section
variable {P : Program} {w : World} {K : PySem.W.Frag} {mg : Str → Option Value} {base : Heap} {CL CC CB : Addr}
theorem ok_law_refused (T : Txt K mg CL CC CB) (D : Def K mg "_law_refused" s_law_refused) (C_hum_through : CalX P w K mg base CB "hum_through" 8 ["limits", "known"] (p_hum_through CL CC)) (C_check_known : CalX P w K mg base CB "check_known" 7 ["limits", "known"] (p_check_known CL)) {fB : Addr} (B : PySem.BadX.BadTxt P K mg CB fB) (XF : XfC K CB) (CM : PySem.W.exmOne K (.ref CB) (.ref CB) = some true) :
    Cal P w K mg base "_law_refused" 9 ["_law_one", "_law_known_here", "_law_through"] (spD K (p_law_refused CL)) := by
  obtain ⟨f, fd, F, hg⟩ := D
  refine ⟨f, fd, ok_D (k := 8) F sc_law_refused (fun ds Q h => len_law_refused h) (fun cdv A outer s H E hr => ⟨_, (pss_cons (ps_try_as (i := 4) (Wout := fun _ _ _ _ => False) rfl rfl sc_law_refused.nd rfl rfl ⟨rfl, by decide, Or.inl B.gC⟩ takes0 (fun W pn xe tk _ => (pss_one (ps_set (i := 3) sc_law_refused.nd rfl (Or.inl rfl) (pe_ifExp (pt_truC (K := K) rfl (pv 2)) (pe_calXC (K := K) rfl C_hum_through hr (by decide) rfl (fun σ => passAt tk σ) (pa_cons (pv 0) (pa_cons (pv 1) pa_nil))) (pe_calXC (K := K) rfl C_check_known hr (by decide) rfl (fun σ => passAt tk σ) (pa_cons (pv 0) (pa_cons (pv 1) pa_nil))))))) (fun a oe cls d pn hz hf => (pss_one (ps_ret (pe_tup (pa_cons (pe_xf XF B.noI hz hf (pv 4)) (pa_cons (pe_xf XF B.noW hz hf (pv 4)) pa_nil)))))))
    (pss_one (ps_ret (pe_ifExp (PW.pt (pw_or (pt_tru (pv 2)) (pw_or1 (pt_cmpR (op_eqD hr.units) (pv 3) (pe_tuple T.bi (pe_lc (own := [("_law_entry", 5)]) (g := gName 5) rfl sc_law_refused.nd (pi_list (pv 1)) (blkOk_by (own := [("_law_entry", 5)]) (N := ["_law_one", "_law_known_here", "_law_through", "_law_told", "e", "_law_entry"]) (sc := defScope s_law_refused) (by decide +kernel)) (fun _ _ _ _ _ => (pg_name (i := 5) sc_law_refused.nd rfl (Or.inl rfl))) (fun _ _ _ _ _ => pts_nil) (fun _ _ _ _ _ => (pe_tupleC (K := K) rfl T.bi (pv 5))))) (nomark _))))) pe_non pe_str)))), fun G0 H0 ds Q h => ?_⟩), hg, F.kp, F.binds fun _ _ _ _ _ _ us hl => match us, hl with | [_, _, _], _ => rfl⟩
  try dsimp only [cxOf, Cx.nox, Cx.wish]
  obtain ⟨n, m, st, D, d, b, rfl, l, hd, hg, hnt, k⟩ := h
  change DS _ _ [_, _, _, .no, .no, .no] _
  have hn2 := l.n2
  refine ds_seqI (fun ρ => ∃ told, wd n d = none ∧ (b = true ∨ told = resD n d) ∧ ρ = [.dt (limO CL n m st), .dt d, .dt (.bl b), .dt told, .no, .no]) ?_ ?_
  · refine ds_try (tb := fun W => tAsg (tIf (tTru K (tVar 2)) (tCallS (spX K CB (p_hum_through CL CC)) (WE W) (tCons (tVar 0) (tCons (tVar 1) tNil))) (tCallS (spX K CB (p_check_known CL)) (WE W) (tCons (tVar 0) (tCons (tVar 1) tNil)))) (gName 3)) (ts := fun a cls d => tRet (tTup (tCons (tXf a cls d CB "index" (tVar 4)) (tCons (tXf a cls d CB "what" (tVar 4)) tNil)))) (Wout := fun _ _ _ _ => False) (i := 4) (Q := Q) (R := fun d1 d2 => ∃ (i : Nat) (w : Str), d1 = .int i ∧ d2 = .str w ∧ wd n d = some (i, w)) CM ?_ ?_ ?_ ?_ ?_
    · exact Nat.le_of_ble_eq_true rfl
    · intro i xs z
      match i, z with
      | 0, z => cases z
      | 1, z => cases z
      | 2, z => cases z
      | 3, z => cases z
      | 4, z => cases z
      | 5, z => cases z
    · intro W hW
      refine ds_set rfl (de_if ?_)
      walk_at "dd"
      cases b with
      | true =>
        refine ite_t rfl ?_
        refine de_callX hW ?_
        walk_at "dd"
        refine ⟨n, m, st, D, d, rfl, l, hd, fun i w hw => ⟨i, w, rfl, rfl, hw⟩, fun hw => ?_⟩
        obtain ⟨ks, h1, h2⟩ := wd_kn hw hg
        refine ⟨ks, h1, h2, fun p _ => ?_, fun _ => ?_⟩
        · exact ⟨_, hw, .inl rfl, rfl⟩
        · exact ⟨_, hw, .inl rfl, rfl⟩
      | false =>
        refine ite_f rfl ?_
        refine de_callX hW ?_
        walk_at "dd"
        refine ⟨n, m, st, d, rfl, hn2, hd, fun hw => ?_, fun i w hw => ⟨i, w, rfl, rfl, hw⟩⟩
        exact ⟨_, hw, .inr rfl, rfl⟩
    · intro a dx G H v1 v2 d1 d2 hg hx r1 r2 hR
      obtain ⟨i, w, rfl, rfl, hw⟩ := hR
      rw [hw] at k
      refine ds_ret (de_tup (da_cons (de_xf rfl hg hx rfl r1 (da_cons (de_xf rfl hg hx ?_ r2 (da_nil ⟨Nat.le_of_ble_eq_true rfl, ?_⟩))))))
      · have : (("what" : Str) == ("index" : Str)) = false := by decide
        simp [List.lookup, this]
      · exact k
    · exact fun _ _ z => z
  · rintro ρ ⟨told, hw, ht, rfl⟩
    rw [hw] at k
    obtain ⟨xs, e, hl, hw'⟩ := wd_seq hw
    obtain rfl := seq_lst e hnt
    walk_at "dd"
    cases b with
    | true =>
      refine ite_t rfl ?_
      refine ite_t rfl ?_
      walk_at "dd"
      exact k
    | false =>
      obtain rfl : told = resD n (.lst xs) := by
        rcases ht with z | z
        · cases z
        · exact z
      have hsh : shD (resD n (.lst xs)) := shD_lt.mp ⟨3, by decide, vals_sh n xs⟩
      refine ite_f rfl ?_
      walk_at "dd"
      refine de_tuple_dl ?_
      refine dl_lcL hw_name (fun ys i acc => acc = vals n (ys.take i)) ?_
      refine de_var rfl ⟨_, .inl rfl, rfl, ?_, ?_⟩
      · rintro i x acc hx rfl
        obtain ⟨v, b, ho⟩ := wdL_all hw' x (List.mem_of_getElem? hx)
        obtain ⟨ho1, _⟩ := okE_some ho
        have hlen := vals_len n (xs.take i)
        rw [List.length_take] at hlen
        refine dlt_yes ?_
        refine dg_name0 rfl ?_
        walk_at "wp"
        refine de_tuple ?_
        refine de_var rfl ⟨_, pr_seq ho1, ?_⟩
        exact ⟨by omega, (vals_next hx ho).symm⟩
      · rintro acc rfl
        rw [List.take_length]
        refine ⟨hsh, hsh, ?_⟩
        have eq : deq (resD n (.lst xs)) (.tup (vals n xs)) = true := deq_refl (n := 3) (shD_tl (vals_sh n xs))
        rw [eq]
        walk_at "dd"
        exact k
end
end K20
namespace K20
open PySem L2
open Evl (Ex)
open PyProof.Rows (envOfC)
/-! F15: whether what is told is right. -/
def RC (CC : Addr) (a b : Addr) (H : Hp) : Prop := ∃ (dx dy : Addr) (i j : Int), H a = some (.ins CC dx [("first", .int i), ("second", .int j)]) ∧ H b = some (.ins CC dy [("first", .int i), ("second", .int j)])
def CalEq (P : Program) (w : World) (K : PySem.W.Frag) (mg : Str → Option Value) (base : Heap) (CC : Addr) : Prop :=
  ∃ f fd, FnOk P w K mg base CX0 1 f fd ["self", "other"] (spEq (RC CC)) ∧ PySem.W.findIn K (.ref CC) "__eq__" = some (some (.ref f)) ∧ PySem.W.isFn K (.ref f) = true ∧ Binds K fd ["self", "other"] []
theorem op_clash {X : Cx} {CC : Addr} {k : Nat} (C : CalEq X.prog X.w X.K X.mg X.base CC) (hr : Room k X.A) (hj : 1 ≤ k) : OpR X (compareOp .Eq) (rEqG (DIns CC (RC CC))) := by
  obtain ⟨f, fd, F, h1, h2, h3⟩ := C
  exact op_eqG (rcG_ins (E := E0) F h1 h2 h3 pass0) (hr.mono hj)
def clI (CC : Addr) (i j : Int) : Dt := .ob CC ["first", "second"] [.int i, .int j]
theorem rep_cl {K : PySem.W.Frag} {G : Hp} {v : V} {CC : Addr} {i j : Int} (r : Rep K G v (clI CC i j)) : ∃ a dx, v = .ref a ∧ G a = some (.ins CC dx [("first", .int i), ("second", .int j)]) := by
  cases r with
  | @ob a _ dx _ ys _ h1 h2 h3 =>
    cases h3 with
    | cons r1 h3 =>
      cases h3 with
      | cons r2 h3 =>
        cases h3
        cases r1
        cases r2
        exact ⟨a, dx, rfl, h1⟩
theorem de_eqC {c : Ctx} {CC : Addr} {ta tb : TE} {ρ : List Sl} {P : Dt → Prop} (h : DE c ta ρ fun d1 => DE c tb ρ fun d2 => ∃ i j, d1 = clI CC i j ∧ d2 = clI CC i j ∧ P (.bl true)) : DE c (tOp (rEqG (DIns CC (RC CC))) ta tb) ρ P :=
  de_op (w := fun d1 d2 P => ∃ i j, d1 = clI CC i j ∧ d2 = clI CC i j ∧ P (.bl true)) (fun G H x y d1 d2 P gd r1 r2 h Q q => by
    obtain ⟨i, j, rfl, rfl, p⟩ := h
    obtain ⟨a, dx, rfl, h1⟩ := rep_cl r1
    obtain ⟨b, dy, rfl, h2⟩ := rep_cl r2
    refine ⟨⟨a, b, dx, dy, _, _, rfl, rfl, gd.gh _ _ h1, gd.gh _ _ h2, dx, dy, i, j, gd.gh _ _ h1, gd.gh _ _ h2⟩, fun H' e => ?_⟩
    refine q (.bl true) (.bl true) G H' (gd.stp (Ex.refl G) (fun c u hc => e _ _ (gd.gh _ _ hc)) fun c z1 z2 => ⟨z2, ?_⟩) (.bl true) p
    cases z : H c with
    | none => exact absurd z z1
    | some o => exact e _ _ z) h
/-- known values as they are handed -/
def hd1 (p : Nat × Rat) : Dt := .lst [.int p.1, rat p.2]
theorem okE_kn {n : Nat} {p : Nat × Rat} {x : Dt} (h : pr x = some (.int p.1, rat p.2)) (hp : p.1 < n) : okE n x = some ((p.1 : Int), rat p.2) := by
  rw [okE_at h, if_pos ⟨⟨by omega, by omega⟩, isRt_rat _⟩]
theorem wdL_of {n : Nat} {e : Nat × Rat → Dt} (he : ∀ p, pr (e p) = some (.int p.1, rat p.2)) : ∀ {ks : List (Nat × Rat)} {ah : Int} {i : Nat}, ks.Pairwise (fun p q => p.1 < q.1) → (∀ p ∈ ks, p.1 < n ∧ ah < (p.1 : Int)) → wdL n ah i (ks.map e) = none ∧ vals n (ks.map e) = ks.map kn1
  | [], _, _, _, _ => ⟨rfl, rfl⟩
  | p :: ks, ah, i, h, hp => by
    obtain ⟨h1, h2⟩ := List.pairwise_cons.mp h
    have hp0 := hp p (by simp)
    have eo := okE_kn (he p) hp0.1
    obtain ⟨q1, q2⟩ := wdL_of (n := n) he (ah := (p.1 : Int)) (i := i + 1) h2 fun q hq => ⟨(hp q (List.mem_cons_of_mem _ hq)).1, by have := h1 q hq; omega⟩
    rw [List.map_cons, wdL_yes eo, if_neg (by omega)]
    refine ⟨q1, ?_⟩
    unfold vals at q2 ⊢
    rw [List.filterMap_cons, eo, List.map_cons, q2]
    rfl
theorem wd_of {n : Nat} {ks : List (Nat × Rat)} {e : Nat × Rat → Dt} {d : Dt} (he : ∀ p, pr (e p) = some (.int p.1, rat p.2)) (hd : seqOf d = some (ks.map e)) (h : KnSt n ks) (hl : ks.length ≤ n) : wd n d = none ∧ resD n d = kn ks := by
  obtain ⟨q1, q2⟩ := wdL_of (n := n) he (ah := -1) (i := 0) h.1 fun p hp => ⟨h.2 p hp, by omega⟩
  refine ⟨?_, ?_⟩
  · unfold wd
    rw [hd]
    dsimp only
    rw [List.length_map, if_neg (by omega)]
    exact q1
  · unfold resD kn
    rw [hd, ← q2]
    rfl
theorem pr_hd (p : Nat × Rat) : pr (hd1 p) = some (.int p.1, rat p.2) := rfl
theorem pr_kn (p : Nat × Rat) : pr (kn1 p) = some (.int p.1, rat p.2) := rfl
theorem dl_handed {c : Ctx} {ρ : List Sl} {P : List Dt → Prop} {ks : List (Nat × Rat)} (h : ρ[2]? = some (.dt (kn ks))) (hl : Nat.ble 11 ρ.length = true) (hlen : ks.length ≤ 1000) (p : P (ks.map hd1)) :
    DL c (tLc (iTup c.K (tVar 2)) (gName 10) tYes (tCB (rListD c.K) (tCons (tVar 10) tNil)) [10]) ρ P := by
  have hl := Nat.le_of_ble_eq_true hl
  refine dl_lcT hw_name (fun xs i acc => acc = (ks.take i).map hd1) (de_var h ⟨_, rfl, rfl, ?_, ?_⟩)
  · rintro i x acc hx rfl
    obtain ⟨p, hp, rfl⟩ := kn_get hx
    have hi : i < ks.length := (List.getElem?_eq_some_iff.mp hp).1
    refine dlt_yes (dg_name (by simp [wipeD]; exact hl) ?_)
    refine de_of_dl (dl_list (de_var (i := 10) (d := kn1 p) (by rw [List.getElem?_set_self]; simp [wipeD]; omega) ⟨_, .inr rfl, ?_⟩))
    refine ⟨by rw [List.length_map, List.length_take]; omega, ?_⟩
    rw [List.take_add_one, hp, List.map_append]
    rfl
  · rintro acc rfl
    rw [List.length_map, List.take_length]
    exact p
theorem hd_sh (ks : List (Nat × Rat)) : sh 3 (.lst (ks.map hd1)) = true := by
  rw [sh]
  refine shAll_of fun x hx => ?_
  obtain ⟨p, _, rfl⟩ := List.mem_map.mp hx
  simp [hd1, sh, shAll]
theorem due_ni {n D c : Nat} {m st : Nat → Option Rat} {ks : List (Nat × Rat)} (l : LimOk n m st D) (kk : KnOk n ks D c) {k : Nat} (hk : k < n) : Ni D (c + 25) (dueF n m st ks k) := by
  have h : NiB D (c + 25) (dueB n m st ks k) := fold_ni ((l.led hk).mono (by omega)) fun q hq => ((NiB.some (kk.ni q hq)).add (l.dist (kk.st.2 q hq) hk)).mono (by omega)
  unfold dueF
  cases e : dueB n m st ks k with
  | none => exact Ni.zero _ _
  | some b => exact h b e
theorem KnOk.up {n D E c : Nat} {ks : List (Nat × Rat)} (kk : KnOk n ks D c) (h : D ∣ E) : KnOk n ks E c := ⟨kk.st, fun p hp => (kk.ni p hp).lift h, kk.len, kk.c0⟩
def p_law_through_right (ds : List Dt) (Q : Dt → Prop) : Prop := ∃ (n : Nat) (m st : Nat → Option Rat) (ks : List (Nat × Rat)) (D : Nat), ds = [lim n m st, kn ks] ∧ LimOk n m st D ∧ Gr (D * 6 ^ 24) ∧ KnOk n ks D 60 ∧ Q (.bl true)
theorem len_law_through_right {ds : List Dt} {Q : Dt → Prop} (h : p_law_through_right ds Q) : ds.length + 1 = 3 := by
  obtain ⟨_, _, _, _, _, rfl, _⟩ := h; rfl
local macro_rules | `(tactic| walk_at "d1") => `(tactic| first
  | with_reducible refine ds_seq ?_
  | with_reducible refine dsr_seq ?_
  | with_reducible refine ds_ret ?_
  | with_reducible refine ds_retN ?_
  | with_reducible refine ds_next ?_
  | with_reducible refine ds_own rfl (dl_list ?_)
  | with_reducible refine ds_own rfl (dl_lst ?_)
  | with_reducible refine ds_app rfl ?_ ?_
  | with_reducible refine ds_put rfl ?_
  | with_reducible refine ds_set rfl ?_
  | with_reducible refine ds_asg ?_
  | with_reducible refine ds_if ?_
  | with_reducible refine ds_par rfl rfl ?_
  | with_reducible refine de_var rfl ?_
  | with_reducible refine de_int ?_
  | with_reducible refine de_bl ?_
  | with_reducible refine de_non ?_
  | with_reducible refine de_str ?_
  | with_reducible refine de_add ?_
  | with_reducible refine de_mul ?_
  | with_reducible refine de_ix_own rfl ?_
  | with_reducible refine de_ix ?_
  | with_reducible refine de_call ?_
  | with_reducible refine de_callH rfl ?_
  | with_reducible refine de_callD (dds := [.non, .non]) (fun _ => .cons .non (.cons .non .nil)) ?_
  | with_reducible refine de_callD (dds := [.non]) (fun _ => .cons .non .nil) ?_
  | with_reducible refine de_chainI ?_
  | with_reducible refine de_opI0 ?_
  | with_reducible refine de_opI ?_
  | with_reducible refine de_opB0 ?_
  | with_reducible refine de_isN ?_
  | with_reducible refine de_notN ?_
  | with_reducible refine de_eqD ?_
  | with_reducible refine de_ne_own rfl ?_
  | with_reducible refine de_neD ?_
  | with_reducible refine de_neg ?_
  | with_reducible refine de_len_own rfl ?_
  | with_reducible refine de_len ?_
  | with_reducible refine de_int1 ?_
  | with_reducible refine de_abs ?_
  | with_reducible refine de_min2 ?_
  | with_reducible refine de_max2 ?_
  | with_reducible refine de_tuple_own rfl ?_
  | with_reducible refine de_tup ?_
  | with_reducible refine de_if ?_
  | with_reducible refine de_isBl ?_
  | with_reducible refine de_isIn ?_
  | with_reducible refine de_isTu ?_
  | with_reducible refine de_isLT ?_
  | with_reducible refine de_andV ?_
  | with_reducible refine de_orV ?_
  | with_reducible refine de_notT ?_
  | with_reducible refine de_fld ?_
  | with_reducible refine de_slice ?_
  | with_reducible refine do_none ?_
  | with_reducible refine do_some ?_
  | with_reducible refine dt_test ?_
  | with_reducible refine dt_tru ?_
  | with_reducible refine dt_and ?_
  | with_reducible refine dt_or ?_
  | with_reducible refine dt_not ?_
  | with_reducible refine da_cons ?_
  | with_reducible refine da_nil ?_
  | with_reducible refine de_lst ?_
  | with_reducible refine de_of_dl (dl_list ?_)
  | with_reducible refine de_mkLimits ?_
  | with_reducible refine de_mkClash ?_
  | with_reducible refine de_lenLim ?_)
local macro_rules | `(tactic| walk_at "d2") => `(tactic| first
  | walk_at "d1"
  | with_reducible refine iteT ?_
  | with_reducible refine iteF ?_
  | with_reducible refine ite_f Bool.not_true ?_
  | with_reducible refine ite_t Bool.not_false ?_
  | (with_reducible refine Exists.intro _ (Exists.intro _ (And.intro rfl (And.intro rfl ?_))))
  | (with_reducible refine Exists.intro _ (And.intro rfl ?_))
  | (with_reducible refine .inl (Exists.intro _ (Exists.intro _ (And.intro rfl (And.intro rfl ?_)))))
  | (refine ⟨_, _, _, .inr rfl, rfl, rfl, ?_⟩)
  | (refine ⟨Nat.le_of_ble_eq_true rfl, ?_⟩)
  | (with_reducible refine And.intro rfl ?_)
  | (with_reducible refine And.intro (by walk_at "mul") ?_)
  | (with_reducible refine And.intro (by walk_at "shd") ?_))
local macro_rules | `(tactic| walk_at "dd") => `(tactic| (repeat walk_at "d2"))
local macro_rules | `(tactic| walk_at "set") => `(tactic| simp only [List.set_cons_zero, List.set_cons_succ])
local macro_rules | `(tactic| walk_at "mul") => `(tactic| first
  | exact mul_nd (by assumption) (by assumption) | exact mul_nn (by assumption) (by assumption) | exact mul_dd (by assumption) (by assumption))
local macro_rules | `(tactic| walk_at "shd") => `(tactic| first
  | exact shD_int _ | exact shD_non | exact shD_rat _ | exact shD_tupTab _ _ | with_reducible assumption)
local macro_rules | `(tactic| walk_at "tg") => `(tactic| refine dg_tup ⟨_, rfl, rfl, dgs_cons (dg_name0 rfl (dgs_cons (dg_name0 rfl (dgs_nil ?_))))⟩)
local macro_rules | `(tactic| walk_at "wp") => `(tactic| simp only [wipeD, List.map_cons, List.map_nil, List.set_cons_zero, List.set_cons_succ])
section
variable {P : Program} {w : World} {K : PySem.W.Frag} {mg : Str → Option Value} {base : Heap} {CL CC CB : Addr}
theorem ok_Clash_eq (T : Txt K mg CL CC CB) {f : Addr} {fd : FuncData} (F : Fun K "__eq__" "Clash.__eq__" s_Clash___eq__ f fd) (h1 : PySem.W.findIn K (.ref CC) "__eq__" = some (some (.ref f))) (h2 : PySem.W.isFn K (.ref f) = true) : CalEq P w K mg base CC := by
  refine ⟨f, fd, F.ok (k := 0) sc_Clash___eq__ (fun vs H Q E h => ?_) (fun cdv A outer s H vs Q E hr h => ?_), h1, h2, F.binds fun _ _ _ _ _ _ us hl => match us, hl with | [_, _], _ => rfl⟩
  · obtain ⟨a, b, rfl, _⟩ := h
    rfl
  · obtain ⟨a, b, rfl, ⟨dx, dy, i, j, ha, hb⟩, q⟩ := h
    refine ⟨_,
(pss_one (ps_ret (pe_and (pe_isi T.bi (pv 1) (pe_glob (v := .ref CC) rfl T.gClash rfl)) (pe_and (pe_cmpR (op_eqD hr.units) (pe_fld (pv 0) rfl) (pe_fld (pv 1) rfl) (nomark _)) (pe_one (pe_cmpR (op_eqD hr.units) (pe_fld (pv 0) rfl) (pe_fld (pv 1) rfl) (nomark _)))))))
      , ?_⟩
    have cl1 : TyD K (clI CC i j) (.ref CC) := .ob _ _ T.oC
    let G : Hp := fun p => if p = a ∨ p = b then H p else none
    have eG : Ex G H := fun p u e => by
      by_cases z : p = a ∨ p = b
      · rwa [show G p = H p from if_pos z] at e
      · rw [show G p = none from if_neg z] at e; cases e
    have ra : Rep K G (.ref a) (clI CC i j) := .ob (ys := [.int i, .int j]) (dx := dx) ((if_pos (.inl rfl)).trans ha) rfl (.cons (.int i) (.cons (.int j) .nil))
    have rb : Rep K G (.ref b) (clI CC i j) := .ob (ys := [.int i, .int j]) (dx := dy) ((if_pos (.inr rfl)).trans hb) rfl (.cons (.int i) (.cons (.int j) .nil))
    have run : ∀ t : TS, DS ⟨K, G, H, none⟩ t [.dt (clI CC i j), .dt (clI CC i j)] { nx := fun _ => False, rt := fun _ d => d = .bl true } → t { nx := fun _ H' => Q .non H', rt := Q } (L2.start ["self", "other"] [.ref a, .ref b]) H := fun t body => by
      refine body _ G H (env_start (N := ["self", "other"]) eG (.cons ra (.cons rb .nil))) _ (fun _ _ _ _ _ _ z => z.elim) (fun v d σ' G' H' ρ' I' rv z => ?_) (fun _ _ _ _ _ _ z => z.elim) fun _ _ _ _ _ _ z => z.elim
      subst z
      cases rv
      refine q H' fun p u e => ?_
      by_cases z : p = a ∨ p = b
      · exact I'.gd.gh _ _ (I'.gd.g0 _ _ ((if_pos z).trans e))
      · rw [(I'.gd.fr p (show H p ≠ none by rw [e]; exact fun z => by cases z) (if_neg z)).2 fun z => by cases z]
        exact e
    refine run _ ?_
    try dsimp only [cxOf, Cx.nox, Cx.wish]
    refine ds_ret (de_andV ?_)
    refine de_isi (.own CC) (de_var rfl ⟨_, _, cl1, kit_self K CC, ?_⟩)
    walk_at "dd"
    refine ⟨CC, _, _, _, rfl, T.oC.cl, T.nFirst, rfl, ?_⟩
    walk_at "dd"
    refine ⟨CC, _, _, _, rfl, T.oC.cl, T.nFirst, rfl, ?_⟩
    walk_at "dd"
    rw [deq_int]
    refine ite_t (by simp) ?_
    walk_at "dd"
    refine ⟨CC, _, _, _, rfl, T.oC.cl, T.nSecond, rfl, ?_⟩
    walk_at "dd"
    refine ⟨CC, _, _, _, rfl, T.oC.cl, T.nSecond, rfl, ?_⟩
    walk_at "dd"
    rw [deq_int]
    simp
theorem ok_law_through_right (T : Txt K mg CL CC CB) (D : Def K mg "_law_through_right" s_law_through_right) (C_law_made : Cal P w K mg base "_law_made" 6 ["_law_limits"] (spD K (p_law_made CL))) (C_hum_through : CalX P w K mg base CB "hum_through" 8 ["limits", "known"] (p_hum_through CL CC)) (C_law_clash : Cal P w K mg base "_law_clash" 7 ["_law_limits", "_law_known_here"] (spD K p_law_clash)) (C_law_keeping : Cal P w K mg base "_law_keeping" 7 ["_law_hand_here", "_law_limits", "_law_known_here"] (spH K p_law_keeping)) (C_law_is_limits : Cal P w K mg base "_law_is_limits" 3 ["_law_thing", "_law_limits"] (spD K (p_law_is_limits CL))) (C_law_is_row : Cal P w K mg base "_law_is_row" 3 ["_law_thing", "_law_many_here"] (spD K p_law_is_row)) (C_law_due : Cal P w K mg base "_law_due" 7 ["_law_limits", "_law_known_here"] (spD K p_law_due)) (C_law_within : Cal P w K mg base "_law_within" 4 ["_law_hum_here", "_law_limits"] (spD K p_law_within)) (C_law_keeps : Cal P w K mg base "_law_keeps" 1 ["_law_hum_here", "_law_known_here"] (spD K p_law_keeps)) (C_law_below : Cal P w K mg base "_law_below" 1 ["_law_one", "_law_other"] (spD K p_law_below)) (C_law_bounded : Cal P w K mg base "_law_bounded" 6 ["_law_limits", "_law_known_here", "_law_place"] (spD K p_law_bounded)) (C_Clash : MkClash P w K mg base CC) (C_Clash_eq : CalEq P w K mg base CC) :
    Cal P w K mg base "_law_through_right" 9 ["_law_hand_here", "_law_limits", "_law_known_here"] (spH K p_law_through_right) := by
  obtain ⟨f, fd, F, hg⟩ := D
  refine ⟨f, fd, ok_H (k := 8) F sc_law_through_right (fun ds Q h => len_law_through_right h) (fun cdv A outer s H E hr => ⟨_, (pss_cons (ps_set (i := 3) sc_law_through_right.nd rfl (Or.inl rfl) (pe_cal C_law_made hr (by decide) rfl (pa_cons (pv 1) pa_nil)))
    (pss_cons (ps_setLc (i := 4) (own := [("_law_entry", 10)]) (g := gName 10) rfl sc_law_through_right.nd rfl rfl (sw_true rfl rfl rfl (by decide +kernel)) (pi_tup (pv 2)) (blkOk_by (own := [("_law_entry", 10)]) (N := ["_law_hand_here", "_law_limits", "_law_known_here", "_law_one", "_law_handed", "_law_told", "_law_clash_here", "_law_turn", "_law_hum_here", "_law_k", "_law_entry"]) (sc := defScope s_law_through_right) (by decide +kernel)) (fun _ _ _ _ _ => (pg_name (i := 10) sc_law_through_right.nd rfl (Or.inl rfl))) (fun _ _ _ _ _ => pts_nil) (fun _ _ _ _ _ => (pe_listC (K := K) rfl T.bi (pv 10))))
    (pss_cons (ps_set (i := 5) sc_law_through_right.nd rfl (Or.inl rfl) (pe_calX C_hum_through hr (by decide) rfl (fun _ => passNo) (pa_cons (pv 3) (pa_cons (pv 4) pa_nil))))
    (pss_cons (ps_set (i := 6) sc_law_through_right.nd rfl (Or.inl rfl) (pe_cal C_law_clash hr (by decide) rfl (pa_cons (pv 1) (pa_cons (pv 2) pa_nil))))
    (pss_cons (ps_if (PW.pt (pw_or (pt_cmpR (op_neD hr.units) (pv 4) (pe_lc (own := [("_law_entry", 10)]) (g := gName 10) rfl sc_law_through_right.nd (pi_tup (pv 2)) (blkOk_by (own := [("_law_entry", 10)]) (N := ["_law_hand_here", "_law_limits", "_law_known_here", "_law_one", "_law_handed", "_law_told", "_law_clash_here", "_law_turn", "_law_hum_here", "_law_k", "_law_entry"]) (sc := defScope s_law_through_right) (by decide +kernel)) (fun _ _ _ _ _ => (pg_name (i := 10) sc_law_through_right.nd rfl (Or.inl rfl))) (fun _ _ _ _ _ => pts_nil) (fun _ _ _ _ _ => (pe_listC (K := K) rfl T.bi (pv 10)))) (nomark _)) (pw_or1 (pt_not (pt_tru (pe_cal C_law_is_limits hr (by decide) rfl (pa_cons (pv 3) (pa_cons (pv 1) pa_nil)))))))) (pss_one (ps_ret pe_bl)) pss_nil)
    (pss_cons (ps_if (pt_cmpR op_notN (pv 6) pe_non (nomark _)) (pss_one (ps_ret (pe_and (pe_isi T.bi (pv 5) (pe_glob (v := .ref CC) rfl T.gClash rfl)) (pe_and (pe_cmpR (op_eqD hr.units) (pe_fld (pv 5) rfl) (pe_ix ix_seq (pv 6) pe_int (fun _ _ => rfl)) (nomark _)) (pe_and (pe_cmpR (op_eqD hr.units) (pe_fld (pv 5) rfl) (pe_ix ix_seq (pv 6) pe_int (fun _ _ => rfl)) (nomark _)) (pe_one (pe_cmpR (op_clash C_Clash_eq hr (by decide)) (pv 5) (pe_mkClash T C_Clash hr (by decide) rfl (pa_cons (pe_ix ix_seq (pv 6) pe_int (fun _ _ => rfl)) (pa_cons (pe_ix ix_seq (pv 6) pe_int (fun _ _ => rfl)) pa_nil))) (nomark _)))))))) pss_nil)
    (pss_cons (ps_if (PW.pt (pw_or (pt_not (pt_tru (pe_cal C_law_is_row hr (by decide) rfl (pa_cons (pv 5) (pa_cons (pe_len T.bi (pe_ix ix_seq (pv 1) pe_int (fun _ _ => rfl))) pa_nil))))) (pw_or1 (pt_cmpR (op_neD hr.units) (pv 5) (pe_cal C_law_due hr (by decide) rfl (pa_cons (pv 1) (pa_cons (pv 2) pa_nil))) (nomark _))))) (pss_one (ps_ret pe_bl)) pss_nil)
    (pss_cons (ps_if (PW.pt (pw_or (pt_not (pt_tru (pe_cal C_law_within hr (by decide) rfl (pa_cons (pv 5) (pa_cons (pv 1) pa_nil))))) (pw_or1 (pt_not (pt_tru (pe_cal C_law_keeps hr (by decide) rfl (pa_cons (pv 5) (pa_cons (pv 2) pa_nil)))))))) (pss_one (ps_ret pe_bl)) pss_nil)
    (pss_cons (ps_for PassesOwn.never rfl (pi_range1 rfl T.bi.range (pa_cons pe_int pa_nil)) (pg_name (i := 7) sc_law_through_right.nd rfl (Or.inl rfl)) (pss_cons (ps_set (i := 8) sc_law_through_right.nd rfl (Or.inl rfl) (pe_cal C_law_keeping hr (by decide) rfl (pa_cons (pv 0) (pa_cons (pv 1) (pa_cons (pv 2) pa_nil)))))
    (pss_cons (ps_if (PW.pt (pw_or (pt_not (pt_tru (pe_cal C_law_within hr (by decide) rfl (pa_cons (pv 8) (pa_cons (pv 1) pa_nil))))) (pw_or1 (pt_not (pt_tru (pe_cal C_law_keeps hr (by decide) rfl (pa_cons (pv 8) (pa_cons (pv 2) pa_nil)))))))) (pss_one (ps_ret pe_bl)) pss_nil)
    (pss_one (ps_for PassesOwn.never rfl (pi_range1 rfl T.bi.range (pa_cons (pe_len T.bi (pv 8)) pa_nil)) (pg_name (i := 9) sc_law_through_right.nd rfl (Or.inl rfl)) (pss_one (ps_if (PW.pt (pw_and (pt_tru (pe_cal C_law_below hr (by decide) rfl (pa_cons (pe_ix ix_seq (pv 5) (pv 9) (fun _ _ => rfl)) (pa_cons (pe_ix ix_seq (pv 8) (pv 9) (fun _ _ => rfl)) pa_nil)))) (pw_and1 (pt_tru (pe_cal C_law_bounded hr (by decide) rfl (pa_cons (pv 1) (pa_cons (pv 2) (pa_cons (pv 9) pa_nil)))))))) (pss_one (ps_ret pe_bl)) pss_nil)))))))
    (pss_one (ps_ret pe_bl))))))))))), fun G0 H0 l ds Q h => ?_⟩), hg, F.kp, F.binds fun _ _ _ _ _ _ us hl => match us, hl with | [_, _, _], _ => rfl⟩
  try dsimp only [cxOf, Cx.nox, Cx.wish]
  obtain ⟨n, m, st, ks, D, rfl, l, gr, kk, k⟩ := h
  change DS _ _ [.hand, _, _, .no, .no, .no, .no, .no, .no, .no, .no] _
  have hn1 := l.n1
  have hn2 := l.n2
  have hkl := kk.len
  have hD : D ∣ D * 6 ^ 24 := ⟨6 ^ 24, rfl⟩
  have hd := hd_sh ks
  have shH : shD (.lst (ks.map hd1)) := ⟨3, by decide, hd⟩
  obtain ⟨w1, w2⟩ := wd_of (n := n) (d := .lst (ks.map hd1)) pr_hd rfl kk.st hkl
  walk_at "dd"
  refine ⟨n, m, st, D, rfl, l, ?_⟩
  walk_at "set"
  refine ds_seq (ds_own rfl (dl_handed rfl rfl (by omega) ?_))
  walk_at "set"
  refine ds_freeze (i := 4) rfl ?_
  walk_at "set"
  refine ds_seq (ds_set rfl (de_callX0 ?_))
  walk_at "dd"
  refine ⟨n, m, st, D, _, rfl, l, shH, fun i w hw => (by rw [w1] at hw; cases hw), fun _ => ⟨ks, w2, kk, ?_⟩⟩
  have eqH : deq (.lst (ks.map hd1)) (.lst (ks.map hd1)) = true := deq_refl hd
  constructor
  · intro p ec
    obtain ⟨p1, p2⟩ := p
    have cl1 : TyD K (clD CC (some (p1, p2))) (.ref CC) := .ob _ _ T.oC
    walk_at "set"
    walk_at "dd"
    refine ⟨n, m, st, ks, D, 60, rfl, l, kk, ?_⟩
    rw [ec]
    walk_at "set"
    walk_at "dd"
    refine de_of_dl (dl_handed rfl rfl (by omega) ?_)
    refine ⟨shH, shH, ?_⟩
    rw [eqH]
    walk_at "dd"
    refine ⟨n, m, st, rfl, hn2, ?_⟩
    walk_at "dd"
    refine ite_t rfl ?_
    walk_at "dd"
    refine de_isi (.own CC) (de_var rfl ⟨_, _, cl1, kit_self K CC, ?_⟩)
    walk_at "dd"
    refine ⟨CC, _, _, _, rfl, T.oC.cl, T.nFirst, rfl, ?_⟩
    walk_at "dd"
    rw [deq_int]
    refine ite_t (by simp) ?_
    walk_at "dd"
    refine ⟨CC, _, _, _, rfl, T.oC.cl, T.nSecond, rfl, ?_⟩
    walk_at "dd"
    rw [deq_int]
    refine ite_t (by simp) ?_
    refine de_eqC ?_
    walk_at "dd"
    exact k
  · intro ec
    have nc := clash_none ec
    have wt := due_within (m := m) l.ps (fun j _ => l.pm j) kk.st nc
    have kp := due_keeps (m := m) l.ps kk.st nc
    have dni : HumNi n (dueF n m st ks) D 85 := fun j hj => due_ni l kk hj
    have eqD : deq (hm n (dueF n m st ks)) (hm n (dueF n m st ks)) = true := deq_tupTab n _
    walk_at "set"
    walk_at "dd"
    refine ⟨n, m, st, ks, D, 60, rfl, l, kk, ?_⟩
    rw [ec]
    walk_at "set"
    walk_at "dd"
    refine de_of_dl (dl_handed rfl rfl (by omega) ?_)
    refine ⟨shH, shH, ?_⟩
    rw [eqH]
    walk_at "dd"
    refine ⟨n, m, st, rfl, hn2, ?_⟩
    walk_at "dd"
    refine ite_f rfl ?_
    walk_at "dd"
    refine .inl ⟨_, .inr rfl, ?_⟩
    rw [tab_len]
    walk_at "dd"
    refine ⟨n, dueF n m st ks, rfl, hn2, ?_⟩
    walk_at "dd"
    refine ⟨n, m, st, ks, D, 60, rfl, l, kk, ?_⟩
    walk_at "dd"
    rw [eqD]
    walk_at "dd"
    refine ⟨n, m, st, dueF n m st ks, D, D, 85, rfl, l, l.gr, dni, by decide, wt, ?_⟩
    walk_at "dd"
    refine ⟨n, dueF n m st ks, ks, rfl, kk.st, kp, ?_⟩
    walk_at "dd"
    refine ds_forR1 (fun i ρ => ∃ x7 x8 x9, ρ = [.hand, .dt (lim n m st), .dt (kn ks), .dt (limO CL n m st), .dt (.lst (ks.map hd1)), .dt (hm n (dueF n m st ks)), .dt (clT none), x7, x8, x9, .no]) ?_
    walk_at "dd"
    refine ⟨bR_small (by omega) (by omega), ⟨_, _, _, rfl⟩, ?_, ?_⟩
    · rintro i ρ hi ⟨x7, x8, x9, rfl⟩
      refine dg_name0 rfl ?_
      walk_at "set"
      walk_at "dd"
      refine ⟨n, m, st, ks, D, 60, rfl, l, gr, kk, by decide, nc, fun h hr' hh => ?_⟩
      have hw := row_within hr'
      have hk := row_keeps kk.st hr'
      walk_at "set"
      walk_at "dd"
      refine ⟨n, m, st, h, D, D * 6 ^ 24, 110, rfl, l, gr, hh, by decide, hw, ?_⟩
      walk_at "dd"
      refine ⟨n, h, ks, rfl, kk.st, hk, ?_⟩
      walk_at "dd"
      refine ds_forR1 (fun j ρ => ∃ x9, ρ = [.hand, .dt (lim n m st), .dt (kn ks), .dt (limO CL n m st), .dt (.lst (ks.map hd1)), .dt (hm n (dueF n m st ks)), .dt (clT none), .dt (.int i), .dt (hm n h), x9, .no]) ?_
      walk_at "dd"
      refine .inl ⟨_, .inr rfl, ?_⟩
      rw [tab_len]
      walk_at "dd"
      refine ⟨bR_small (by omega) (by omega), ⟨_, rfl⟩, ?_, ?_⟩
      · rintro j ρ hj ⟨x9, rfl⟩
        have hjn : j < n := by omega
        refine dg_name0 rfl ?_
        walk_at "set"
        walk_at "dd"
        refine ⟨_, _, _, .inr rfl, rfl, tab_at (k := j) _ hjn rfl, ?_⟩
        walk_at "dd"
        refine ⟨_, _, _, .inr rfl, rfl, tab_at (k := j) _ hjn rfl, ?_⟩
        walk_at "dd"
        refine ⟨dueF n m st ks j, h j, rfl, (dni j hjn).sm l.gr.pos l.gr.lt (by decide), (hh j hjn).sm gr.pos gr.lt (by decide), ?_⟩
        walk_at "dd"
        by_cases hb : dueF n m st ks j < h j
        · refine ite_t (decide_eq_true hb) ?_
          walk_at "dd"
          refine ⟨n, m, st, ks, j, D, rfl, l, hjn, fun b hbb => ?_⟩
          have hbn : b = false := by
            cases b with
            | false => rfl
            | true =>
              exfalso
              obtain ⟨i', h1, h2, h3⟩ := hbb rfl
              have hdn := due_bounded (m := m) l.ps kk.st hjn h1 h2 h3
              have hle := hum_due (m := m) kk.st l.ps hw hk hjn
              cases e : dueB n m st ks j with
              | none => exact hdn e
              | some v =>
                rw [e] at hle
                rw [due_some e] at hb
                have : h j ≤ v := hle
                grind
          subst hbn
          walk_at "dd"
          exact ⟨_, rfl⟩
        · refine ite_f (decide_eq_false hb) ?_
          refine ite_f rfl ?_
          walk_at "dd"
          exact ⟨_, rfl⟩
      · rintro ρ ⟨x9, rfl⟩
        exact ⟨_, _, _, rfl⟩
    · rintro ρ ⟨x7, x8, x9, rfl⟩
      walk_at "dd"
      exact k
end
end K20
namespace K20
open PySem L2
open Evl (Ex)
open PyProof.Rows (envOfC)
/-! F16: the law. -/
def spLaw (K : PySem.W.Frag) : Sp := fun vs H Q _ => ∃ (a : Addr) (ns : List Int), vs = [.ref a] ∧ SqL K H a (ns.map V.int) ∧ ns.length ≤ 63 ∧ ∀ H', Q (.bl true) H'
section
variable {P : Program} {w : World} {K : PySem.W.Frag} {mg : Str → Option Value} {base : Heap}
theorem ok_L {x qual : Str} {st : Stmt} {f : Addr} {fd : FuncData} {N ps : List Str} {k : Nat} (F : Fun K x qual st f fd) (S : FnScope N ("_law_script" :: ps) (defScope st))
    (hbody : ∀ (cdv : Value) (A : Around) (outer : List PySem.Env) (s : Shared) (H : Hp) (E : XK), Room k (A.deeper (envOfC qual (defScope st) s.heap.objs.size f cdv)) →
      ∃ t, PSs (cxOf CX0 P w K mg base N qual (defScope st) f cdv A outer s H E).nox (defBody st) t ∧ ∀ (ns : List Int) (G0 H0 : Hp) (D : Ends), ns.length ≤ 63 → (∀ H', D.rt (.bl true) H') → Ex G0 H0 → DSr ⟨K, G0, H0, none⟩ t (start9 N [.scr ns]) D) (hps : ps = []) :
    FnOk P w K mg base CX0 (k + 1) f fd ("_law_script" :: ps) (spLaw K) :=
  F.ok S (fun vs H Q E ⟨a, ns, e0, hS, hl, q⟩ => by rw [e0, hps]; rfl) fun cdv A outer s H vs Q E hr ⟨a, ns, e0, hS, hl, q⟩ => by
    subst e0
    obtain ⟨t, h1, h2⟩ := hbody cdv A outer s H E hr
    exact ⟨t, h1, h2 ns H H _ hl q (Ex.refl H) (L2.start N [.ref a]) H H (env_start (Ex.refl H) (.cons (.scr hS) .nil))⟩
end
/-- the hand is laid, then all else is as DS has it -/
theorem dsr_hand {K : PySem.W.Frag} {G0 H0 : Hp} {ns : List Int} {us : TS} {D : Ends} {xs : List Sl} (hno : ∀ s ∈ xs, s = .no) (hl : ns.length ≤ 63) (hq : ∀ H', D.rt (.bl true) H')
    (h : ∀ (G H : Hp) (l : Addr), DS ⟨K, G, H, some l⟩ us (.dt (.scr ns) :: .hand :: xs) { nx := fun _ => False, rt := fun _ d => d = .bl true }) :
    DSr ⟨K, G0, H0, none⟩ (tSeq (tAsg (tCall (spW K) [] E0 (tCons (tVar 0) tNil)) (gName 1)) us) (.dt (.scr ns) :: .no :: xs) D := fun σ G H I => by
  obtain ⟨v, e, r⟩ := I.sl 0 _ rfl
  have hlen := I.len
  refine ⟨v, e, G, v, ns, rfl, I.gd.gh, r, hl, fun l G' H' gg gh fr h0 ha => ?_⟩
  have hno' : ∀ (i : Nat) (s : Sl), (Sl.dt (.scr ns) :: Sl.hand :: xs)[i + 2]? = some s → s = .no := fun i s hs => hno s (List.mem_of_getElem? (by simpa using hs))
  have I' : Env ⟨K, G', H', some l⟩ (σ.set 1 (some (.ref l))) G' H' (.dt (.scr ns) :: .hand :: xs) := {
    gd := ⟨gh, Ex.refl G', fun a h1 h2 => ⟨h2, fun _ => rfl⟩, fun l' z => by cases z; exact ⟨ha.some, ha.1, ha⟩⟩
    len := by rw [List.length_set]; exact hlen
    sl := fun i s hs => by
      match i, hs with
      | 0, hs =>
        cases hs
        exact ⟨v, by rw [List.getElem?_set_ne (by decide)]; exact e, r.mono gg⟩
      | 1, hs =>
        cases hs
        exact ⟨l, by rw [List.getElem?_set_self]; rw [hlen]; simp, rfl⟩
      | i + 2, hs =>
        rw [hno' i s hs]
        trivial
    own := fun i j ys zs a hi => by
      match i, hi with
      | 0, hi => cases hi
      | 1, hi => cases hi
      | i + 2, hi => exact absurd (hno' i _ hi) (by simp) }
  exact h G' H' l _ G' H' I' D (fun _ _ _ _ _ _ z => z.elim) (fun v d σ' G2 H2 ρ' I2 rv z => by subst z; cases rv; exact hq H2) (fun _ _ _ _ _ _ z => z.elim) fun _ _ _ _ _ _ z => z.elim
theorem wdL_word {n : Nat} : ∀ {xs : List Dt} {ah : Int} {i j : Nat} {w : Str}, wdL n ah i xs = some (j, w) → w = "value" ∨ w = "rising"
  | [], _, _, _, _, h => by cases h
  | x :: xs, ah, i, j, w, h => by
    cases e : okE n x with
    | none =>
      rw [wdL_no e] at h
      cases h
      exact .inl rfl
    | some p =>
      obtain ⟨k, b⟩ := p
      rw [wdL_yes e] at h
      split at h
      · cases h
        exact .inr rfl
      · exact wdL_word h
theorem wd_sh (n : Nat) (d : Dt) : sh 1 (wdD (wd n d)) = true := by
  cases e : wd n d with
  | none => decide +kernel
  | some p =>
    obtain ⟨i, w⟩ := p
    have hw : w = "many" ∨ w = "value" ∨ w = "rising" := by
      unfold wd at e
      split at e
      · cases e; exact .inl rfl
      · split at e
        · cases e; exact .inl rfl
        · exact .inr (wdL_word e)
    have hs : sh 0 (.str w) = true := by rcases hw with rfl | rfl | rfl <;> decide +kernel
    simp only [wdD, sh, shAll, Bool.and_true, Bool.true_and]
    exact hs
theorem gr_law {D : Nat} (h0 : 0 < D) (h : D < 2 ^ 672) : Gr (D * 6 ^ 24 * 2) ∧ Gr (D * 6 ^ 24 * 2 * 6 ^ 24) := by
  have h1 : D * 6 ^ 24 * 2 * 6 ^ 24 < 2 ^ 900 := by
    have : D * 6 ^ 24 * 2 * 6 ^ 24 ≤ 2 ^ 672 * 6 ^ 24 * 2 * 6 ^ 24 := Nat.mul_le_mul_right _ (Nat.mul_le_mul_right _ (Nat.mul_le_mul_right _ (Nat.le_of_lt h)))
    exact Nat.lt_of_le_of_lt this (by decide +kernel)
  have p6 : 0 < 6 ^ 24 := by decide
  have h2 : 0 < D * 6 ^ 24 * 2 := Nat.mul_pos (Nat.mul_pos h0 p6) (by decide)
  refine ⟨⟨h2, Nat.lt_of_le_of_lt ?_ h1⟩, ⟨Nat.mul_pos h2 p6, h1⟩⟩
  exact Nat.le_mul_of_pos_right _ p6
theorem kn_good {n D : Nat} {ks : List (Nat × Rat)} (kk : KnOk n ks D 60) : Good D (.lst (ks.map kn1)) := fun xs e => by
  cases e
  intro x hx
  obtain ⟨p, hp, rfl⟩ := List.mem_map.mp hx
  exact ge_tup (gv_rat (kk.ni p hp))
local macro_rules | `(tactic| walk_at "d1") => `(tactic| first
  | with_reducible refine ds_seq ?_
  | with_reducible refine dsr_seq ?_
  | with_reducible refine ds_ret ?_
  | with_reducible refine ds_retN ?_
  | with_reducible refine ds_next ?_
  | with_reducible refine ds_own rfl (dl_list ?_)
  | with_reducible refine ds_own rfl (dl_lst ?_)
  | with_reducible refine ds_app rfl ?_ ?_
  | with_reducible refine ds_put rfl ?_
  | with_reducible refine ds_set rfl ?_
  | with_reducible refine ds_asg ?_
  | with_reducible refine ds_if ?_
  | with_reducible refine ds_par rfl rfl ?_
  | with_reducible refine de_var rfl ?_
  | with_reducible refine de_int ?_
  | with_reducible refine de_bl ?_
  | with_reducible refine de_non ?_
  | with_reducible refine de_str ?_
  | with_reducible refine de_add ?_
  | with_reducible refine de_mul ?_
  | with_reducible refine de_ix_own rfl ?_
  | with_reducible refine de_ix ?_
  | with_reducible refine de_call ?_
  | with_reducible refine de_callH rfl ?_
  | with_reducible refine de_callD (dds := [.non, .non]) (fun _ => .cons .non (.cons .non .nil)) ?_
  | with_reducible refine de_callD (dds := [.non]) (fun _ => .cons .non .nil) ?_
  | with_reducible refine de_chainI ?_
  | with_reducible refine de_opI0 ?_
  | with_reducible refine de_opI ?_
  | with_reducible refine de_opB0 ?_
  | with_reducible refine de_isN ?_
  | with_reducible refine de_notN ?_
  | with_reducible refine de_eqD ?_
  | with_reducible refine de_ne_own rfl ?_
  | with_reducible refine de_neD ?_
  | with_reducible refine de_neg ?_
  | with_reducible refine de_len_own rfl ?_
  | with_reducible refine de_len ?_
  | with_reducible refine de_int1 ?_
  | with_reducible refine de_abs ?_
  | with_reducible refine de_min2 ?_
  | with_reducible refine de_max2 ?_
  | with_reducible refine de_tuple_own rfl ?_
  | with_reducible refine de_tup ?_
  | with_reducible refine de_if ?_
  | with_reducible refine de_isBl ?_
  | with_reducible refine de_isIn ?_
  | with_reducible refine de_isTu ?_
  | with_reducible refine de_isLT ?_
  | with_reducible refine de_andV ?_
  | with_reducible refine de_orV ?_
  | with_reducible refine de_notT ?_
  | with_reducible refine de_fld ?_
  | with_reducible refine de_slice ?_
  | with_reducible refine do_none ?_
  | with_reducible refine do_some ?_
  | with_reducible refine dt_test ?_
  | with_reducible refine dt_tru ?_
  | with_reducible refine dt_and ?_
  | with_reducible refine dt_or ?_
  | with_reducible refine dt_not ?_
  | with_reducible refine da_cons ?_
  | with_reducible refine da_nil ?_
  | with_reducible refine de_lst ?_
  | with_reducible refine de_of_dl (dl_list ?_)
  | with_reducible refine de_mkLimits ?_
  | with_reducible refine de_mkClash ?_
  | with_reducible refine de_lenLim ?_)
local macro_rules | `(tactic| walk_at "d2") => `(tactic| first
  | walk_at "d1"
  | with_reducible refine iteT ?_
  | with_reducible refine iteF ?_
  | with_reducible refine ite_f Bool.not_true ?_
  | with_reducible refine ite_t Bool.not_false ?_
  | (with_reducible refine Exists.intro _ (Exists.intro _ (And.intro rfl (And.intro rfl ?_))))
  | (with_reducible refine Exists.intro _ (And.intro rfl ?_))
  | (with_reducible refine .inl (Exists.intro _ (Exists.intro _ (And.intro rfl (And.intro rfl ?_)))))
  | (refine ⟨_, _, _, .inr rfl, rfl, rfl, ?_⟩)
  | (refine ⟨Nat.le_of_ble_eq_true rfl, ?_⟩)
  | (with_reducible refine And.intro rfl ?_)
  | (with_reducible refine And.intro (by walk_at "mul") ?_)
  | (with_reducible refine And.intro (by walk_at "shd") ?_))
local macro_rules | `(tactic| walk_at "dd") => `(tactic| (repeat walk_at "d2"))
local macro_rules | `(tactic| walk_at "set") => `(tactic| simp only [List.set_cons_zero, List.set_cons_succ])
local macro_rules | `(tactic| walk_at "mul") => `(tactic| first
  | exact mul_nd (by assumption) (by assumption) | exact mul_nn (by assumption) (by assumption) | exact mul_dd (by assumption) (by assumption))
local macro_rules | `(tactic| walk_at "shd") => `(tactic| first
  | exact shD_int _ | exact shD_non | exact shD_rat _ | exact shD_tupTab _ _ | with_reducible assumption)
local macro_rules | `(tactic| walk_at "tg") => `(tactic| refine dg_tup ⟨_, rfl, rfl, dgs_cons (dg_name0 rfl (dgs_cons (dg_name0 rfl (dgs_nil ?_))))⟩)
local macro_rules | `(tactic| walk_at "wp") => `(tactic| simp only [wipeD, List.map_cons, List.map_nil, List.set_cons_zero, List.set_cons_succ])
section
variable {P : Program} {w : World} {K : PySem.W.Frag} {mg : Str → Option Value} {base : Heap} {CL CC CB : Addr}
theorem ok_law (T : Txt K mg CL CC CB) {f : Addr} {fd : FuncData} (F : Fun K "law" "law" s_law f fd) (C_law_hand : Cal P w K mg base "_law_hand" 1 ["_law_script"] (spW K)) (C_law_many : Cal P w K mg base "_law_many" 3 ["_law_hand_here"] (spH K p_law_many)) (C_law_bounds : Cal P w K mg base "_law_bounds" 4 ["_law_hand_here", "_law_count"] (spH K p_law_bounds)) (C_law_made : Cal P w K mg base "_law_made" 6 ["_law_limits"] (spD K (p_law_made CL))) (C_law_drawn : Cal P w K mg base "_law_drawn" 9 ["_law_hand_here", "_law_limits"] (spH K p_law_drawn)) (C_law_spoilt : Cal P w K mg base "_law_spoilt" 4 ["_law_hand_here", "_law_many_here", "_law_known_here"] (spH K p_law_spoilt)) (C_law_word_due : Cal P w K mg base "_law_word_due" 3 ["_law_many_here", "_law_known_here"] (spD K p_law_word_due)) (C_law_through_right : Cal P w K mg base "_law_through_right" 9 ["_law_hand_here", "_law_limits", "_law_known_here"] (spH K p_law_through_right)) (C_law_refused : Cal P w K mg base "_law_refused" 9 ["_law_one", "_law_known_here", "_law_through"] (spD K (p_law_refused CL))) (C_check_known : CalX P w K mg base CB "check_known" 7 ["limits", "known"] (p_check_known CL)) :
    FnOk P w K mg base CX0 10 f fd ["_law_script"] (spLaw K) := by
  refine ok_L (k := 9) (ps := []) F sc_law (fun cdv A outer s H E hr => ⟨_, (pss_cons (ps_set (i := 1) sc_law.nd rfl (Or.inl rfl) (pe_cal C_law_hand hr (by decide) rfl (pa_cons (pv 0) pa_nil)))
    (pss_cons (ps_set (i := 2) sc_law.nd rfl (Or.inl rfl) (pe_cal C_law_many hr (by decide) rfl (pa_cons (pv 1) pa_nil)))
    (pss_cons (ps_set (i := 3) sc_law.nd rfl (Or.inl rfl) (pe_cal C_law_bounds hr (by decide) rfl (pa_cons (pv 1) (pa_cons (pv 2) pa_nil))))
    (pss_cons (ps_set (i := 4) sc_law.nd rfl (Or.inl rfl) (pe_cal C_law_made hr (by decide) rfl (pa_cons (pv 3) pa_nil)))
    (pss_cons (ps_for PassesOwn.never rfl (pi_range1 rfl T.bi.range (pa_cons pe_int pa_nil)) (pg_name (i := 5) sc_law.nd rfl (Or.inl rfl)) (pss_cons (ps_set (i := 6) sc_law.nd rfl (Or.inl rfl) (pe_cal C_law_drawn hr (by decide) rfl (pa_cons (pv 1) (pa_cons (pv 3) pa_nil))))
    (pss_cons (ps_if (pt_not (pt_tru (pe_cal C_law_through_right hr (by decide) rfl (pa_cons (pv 1) (pa_cons (pv 3) (pa_cons (pv 6) pa_nil)))))) (pss_one (ps_ret pe_bl)) pss_nil)
    (pss_cons (ps_if (PW.pt (pw_or (pt_cmpR op_notN (pe_cal C_law_refused hr (by decide) rfl (pa_cons (pv 4) (pa_cons (pe_list T.bi (pv 6)) (pa_cons pe_bl pa_nil)))) pe_non (nomark _)) (pw_or1 (pt_not (pt_tru (pe_isi T.bi (pe_calX C_check_known hr (by decide) rfl (fun _ => passNo) (pa_cons (pv 4) (pa_cons (pv 6) pa_nil))) (pe_tyTuple T.bi))))))) (pss_one (ps_ret pe_bl)) pss_nil)
    (pss_cons (ps_set (i := 7) sc_law.nd rfl (Or.inl rfl) (pe_cal C_law_spoilt hr (by decide) rfl (pa_cons (pv 1) (pa_cons (pv 2) (pa_cons (pv 6) pa_nil)))))
    (pss_cons (ps_set (i := 8) sc_law.nd rfl (Or.inl rfl) (pe_cal C_law_word_due hr (by decide) rfl (pa_cons (pv 2) (pa_cons (pv 7) pa_nil))))
    (pss_one (ps_if (PW.pt (pw_or (pt_cmpR (op_neD hr.units) (pe_cal C_law_refused hr (by decide) rfl (pa_cons (pv 4) (pa_cons (pv 7) (pa_cons pe_bl pa_nil)))) (pv 8) (nomark _)) (pw_or1 (pt_cmpR (op_neD hr.units) (pe_cal C_law_refused hr (by decide) rfl (pa_cons (pv 4) (pa_cons (pv 7) (pa_cons pe_bl pa_nil)))) (pv 8) (nomark _))))) (pss_one (ps_ret pe_bl)) pss_nil))))))))
    (pss_one (ps_ret pe_bl))))))), fun ns G0 H0 D h1 h2 h3 => ?_⟩) rfl
  try dsimp only [cxOf, Cx.nox, Cx.wish]
  change DSr _ _ [.dt (.scr ns), .no, .no, .no, .no, .no, .no, .no, .no] _
  refine dsr_hand (by intro s hs; simp only [List.mem_cons, List.not_mem_nil, or_false] at hs; rcases hs with rfl | rfl | rfl | rfl | rfl | rfl | rfl <;> rfl) h1 h2 fun G H lh => ?_
  walk_at "dd"
  refine ⟨rfl, fun n hn1 hn2 => ?_⟩
  walk_at "set"
  walk_at "dd"
  refine ⟨n, rfl, hn1, hn2, fun m st D0 l0 hD0 => ?_⟩
  walk_at "set"
  walk_at "dd"
  refine ⟨n, m, st, D0, rfl, l0, ?_⟩
  walk_at "set"
  obtain ⟨g1, g2⟩ := gr_law l0.gr.pos hD0
  have hdv : D0 ∣ D0 * 6 ^ 24 * 2 := ⟨6 ^ 24 * 2, Nat.mul_assoc _ _ _⟩
  have h2dv : 2 ∣ D0 * 6 ^ 24 * 2 := ⟨D0 * 6 ^ 24, Nat.mul_comm _ _⟩
  have l := l0.up hdv g1
  refine ds_seq ?_
  refine ds_forR1 (fun i ρ => ∃ x5 x6 x7 x8, ρ = [.dt (.scr ns), .hand, .dt (.int n), .dt (lim n m st), .dt (limO CL n m st), x5, x6, x7, x8]) ?_
  walk_at "dd"
  refine ⟨bR_small (by omega) (by omega), ⟨_, _, _, _, rfl⟩, ?_, ?_⟩
  · rintro i ρ hi ⟨x5, x6, x7, x8, rfl⟩
    refine dg_name0 rfl ?_
    walk_at "set"
    walk_at "dd"
    refine ⟨n, m, st, D0, rfl, l0, g1, fun ks kk => ?_⟩
    generalize D0 * 6 ^ 24 * 2 = D at *
    obtain ⟨a1, a2⟩ := wd_of (n := n) (d := .lst (ks.map kn1)) pr_kn rfl kk.st kk.len
    obtain ⟨b1, b2⟩ := wd_of (n := n) (d := kn ks) pr_kn rfl kk.st kk.len
    have shK := kn_sh ks
    walk_at "set"
    walk_at "dd"
    refine ⟨n, m, st, ks, D, rfl, l, g2, kk, ?_⟩
    walk_at "dd"
    refine ⟨_, .inr rfl, ?_⟩
    walk_at "dd"
    refine ⟨n, m, st, D, _, false, rfl, l, shD_lt.mpr shK, kn_good kk, fun xs z => (by cases z), ?_⟩
    rw [a1]
    walk_at "dd"
    refine ite_f rfl ?_
    walk_at "dd"
    refine de_callX0 ?_
    walk_at "dd"
    refine ⟨n, m, st, kn ks, rfl, hn2, shK, fun _ => ?_, fun i w hw => (by rw [b1] at hw; cases hw)⟩
    rw [b2]
    refine ⟨shK, ?_⟩
    walk_at "dd"
    refine ite_f rfl ?_
    walk_at "dd"
    refine ⟨n, ks, D, rfl, hn2, kk.len, h2dv, kk.ni, fun d hds hdg hdt => ?_⟩
    have shd : shD d := ⟨10, by decide, hds⟩
    have shw : shD (wdD (wd n d)) := ⟨1, by decide, wd_sh n d⟩
    have eqw : deq (wdD (wd n d)) (wdD (wd n d)) = true := deq_refl (wd_sh n d)
    walk_at "set"
    walk_at "dd"
    refine ⟨n, d, rfl, hn2, shd, ?_⟩
    walk_at "set"
    walk_at "dd"
    refine ⟨n, m, st, D, d, false, rfl, l, shd, hdg, hdt, ?_⟩
    walk_at "dd"
    rw [eqw]
    walk_at "dd"
    refine ⟨n, m, st, D, d, true, rfl, l, shd, hdg, hdt, ?_⟩
    walk_at "dd"
    rw [eqw]
    walk_at "dd"
    exact ⟨_, _, _, _, rfl⟩
  · rintro ρ ⟨x5, x6, x7, x8, rfl⟩
    walk_at "dd"
    rfl
end
end K20
namespace K20
open PySem L2
open Evl (Ex)
open PyProof.Rows (envOfC)
/-! Fi: all defs together; what the text's top has written. -/
theorem law_all {P : Program} {w : World} {K : PySem.W.Frag} {mg : Str → Option Value} {base : Heap} {CL CC CB fB : Addr} (T : Txt K mg CL CC CB) (B : PySem.BadX.BadTxt P K mg CB fB) (XF : XfC K CB) (CM : PySem.W.exmOne K (.ref CB) (.ref CB) = some true)
    (D_law_hand : Def K mg "_law_hand" s_law_hand)
    (D_law_mixed : Def K mg "_law_mixed" s_law_mixed)
    (D_law_take : Def K mg "_law_take" s_law_take)
    (D_law_many : Def K mg "_law_many" s_law_many)
    (D_law_gcd : Def K mg "_law_gcd" s_law_gcd)
    (D_law_ratio : Def K mg "_law_ratio" s_law_ratio)
    (D_law_bound : Def K mg "_law_bound" s_law_bound)
    (D_law_bounds : Def K mg "_law_bounds" s_law_bounds)
    (D_shared_divisor : Def K mg "shared_divisor" s_shared_divisor)
    (D_is_whole : DefD K mg "is_whole" s_is_whole [.non, .non])
    (D_is_ratio : Def K mg "is_ratio" s_is_ratio)
    (D_is_bound : Def K mg "is_bound" s_is_bound)
    (D_law_made : Def K mg "_law_made" s_law_made)
    (D_law_known_of : Def K mg "_law_known_of" s_law_known_of)
    (D_law_plus : Def K mg "_law_plus" s_law_plus)
    (D_law_added : Def K mg "_law_added" s_law_added)
    (D_law_below : Def K mg "_law_below" s_law_below)
    (D_law_least : Def K mg "_law_least" s_law_least)
    (D_law_reach : Def K mg "_law_reach" s_law_reach)
    (D_law_tight : Def K mg "_law_tight" s_law_tight)
    (D_law_minus_bound : Def K mg "_law_minus_bound" s_law_minus_bound)
    (D_law_higher : Def K mg "_law_higher" s_law_higher)
    (D_law_less : Def K mg "_law_less" s_law_less)
    (D_law_times : Def K mg "_law_times" s_law_times)
    (D_law_share : Def K mg "_law_share" s_law_share)
    (D_law_hum_within : Def K mg "_law_hum_within" s_law_hum_within)
    (D_law_known : Def K mg "_law_known" s_law_known)
    (D_law_hum : Def K mg "_law_hum" s_law_hum)
    (D_law_drawn : Def K mg "_law_drawn" s_law_drawn)
    (D_law_odd_ratio : Def K mg "_law_odd_ratio" s_law_odd_ratio)
    (D_law_spoilt : Def K mg "_law_spoilt" s_law_spoilt)
    (D_law_is_ratio : Def K mg "_law_is_ratio" s_law_is_ratio)
    (D_law_word_due : Def K mg "_law_word_due" s_law_word_due)
    (D_is_section : Def K mg "is_section" s_is_section)
    (D_check_known : Def K mg "check_known" s_check_known)
    (D_compare : Def K mg "compare" s_compare)
    (D_lesser_bound : Def K mg "lesser_bound" s_lesser_bound)
    (D_lowest : Def K mg "lowest" s_lowest)
    (D_plus : Def K mg "plus" s_plus)
    (D_bounds_added : Def K mg "bounds_added" s_bounds_added)
    (D_led_along : Def K mg "led_along" s_led_along)
    (D_tighten : Def K mg "tighten" s_tighten)
    (D_passes_bound : Def K mg "passes_bound" s_passes_bound)
    (D_size_of : Def K mg "size_of" s_size_of)
    (D_distance_between : Def K mg "distance_between" s_distance_between)
    (D_minus : Def K mg "minus" s_minus)
    (D_clash_of : Def K mg "clash_of" s_clash_of)
    (D_hum_through : Def K mg "hum_through" s_hum_through)
    (D_law_passes : Def K mg "_law_passes" s_law_passes)
    (D_law_size : Def K mg "_law_size" s_law_size)
    (D_law_far : Def K mg "_law_far" s_law_far)
    (D_law_clash : Def K mg "_law_clash" s_law_clash)
    (D_law_keeping : Def K mg "_law_keeping" s_law_keeping)
    (D_law_is_limits : Def K mg "_law_is_limits" s_law_is_limits)
    (D_law_is_row : Def K mg "_law_is_row" s_law_is_row)
    (D_law_due : Def K mg "_law_due" s_law_due)
    (D_law_within : Def K mg "_law_within" s_law_within)
    (D_law_keeps : Def K mg "_law_keeps" s_law_keeps)
    (D_law_value : Def K mg "_law_value" s_law_value)
    (D_law_bounded : Def K mg "_law_bounded" s_law_bounded)
    (D_law_through_right : Def K mg "_law_through_right" s_law_through_right)
    (D_law_refused : Def K mg "_law_refused" s_law_refused)
    {fLI fLL fCI fCE : Addr} {dLI dLL dCI dCE : FuncData} (F_LI : Fun K "__init__" "Limits.__init__" s_Limits___init__ fLI dLI) (M_L : Mk K CL fLI) (F_LL : Fun K "__len__" "Limits.__len__" s_Limits___len__ fLL dLL) (L1 : PySem.W.findIn K (.ref CL) "__len__" = some (some (.ref fLL))) (L2 : PySem.W.isFn K (.ref fLL) = true)
    (F_CI : Fun K "__init__" "Clash.__init__" s_Clash___init__ fCI dCI) (M_C : Mk K CC fCI) (F_CE : Fun K "__eq__" "Clash.__eq__" s_Clash___eq__ fCE dCE) (C1 : PySem.W.findIn K (.ref CC) "__eq__" = some (some (.ref fCE))) (C2 : PySem.W.isFn K (.ref fCE) = true)
    {f : Addr} {fd : FuncData} (F : Fun K "law" "law" s_law f fd) : FnOk P w K mg base CX0 10 f fd ["_law_script"] (spLaw K) := by
  have C_Limits_len : CalLen P w K mg base CL := ok_Limits_len T F_LL L1 L2
  have C_Clash : MkClash P w K mg base CC := ok_Clash_init T F_CI M_C
  have C_Clash_eq : CalEq P w K mg base CC := ok_Clash_eq T F_CE C1 C2
  have C_law_hand : Cal P w K mg base "_law_hand" 1 ["_law_script"] (spW K) := ok_law_hand (T := T) (D := D_law_hand)
  have C_law_mixed : Cal P w K mg base "_law_mixed" 1 ["_law_number", "_law_turn"] (spD K p_law_mixed) := ok_law_mixed (T := T) (D := D_law_mixed)
  have C_law_take : Cal P w K mg base "_law_take" 2 ["_law_hand_here", "_law_many_here"] (spH K p_law_take) := ok_law_take (T := T) (D := D_law_take) (C_law_mixed := C_law_mixed)
  have C_law_many : Cal P w K mg base "_law_many" 3 ["_law_hand_here"] (spH K p_law_many) := ok_law_many (T := T) (D := D_law_many) (C_law_take := C_law_take)
  have C_law_gcd : Cal P w K mg base "_law_gcd" 1 ["_law_one", "_law_other"] (spD K p_law_gcd) := ok_law_gcd (T := T) (D := D_law_gcd)
  have C_law_ratio : Cal P w K mg base "_law_ratio" 2 ["_law_top", "_law_bottom"] (spD K p_law_ratio) := ok_law_ratio (T := T) (D := D_law_ratio) (C_law_gcd := C_law_gcd)
  have C_law_bound : Cal P w K mg base "_law_bound" 3 ["_law_hand_here", "_law_none"] (spH K p_law_bound) := ok_law_bound (T := T) (D := D_law_bound) (C_law_take := C_law_take) (C_law_ratio := C_law_ratio)
  have C_law_bounds : Cal P w K mg base "_law_bounds" 4 ["_law_hand_here", "_law_count"] (spH K p_law_bounds) := ok_law_bounds (T := T) (D := D_law_bounds) (C_law_take := C_law_take) (C_law_bound := C_law_bound)
  have C_shared_divisor : Cal P w K mg base "shared_divisor" 1 ["one", "other"] (spD K p_shared_divisor) := ok_shared_divisor (T := T) (D := D_shared_divisor)
  have C_is_whole : CalW P w K mg base := ok_is_whole T D_is_whole
  have C_is_ratio : Cal P w K mg base "is_ratio" 2 ["thing"] (spD K p_is_ratio) := ok_is_ratio (T := T) (D := D_is_ratio) (C_shared_divisor := C_shared_divisor) (C_is_whole := C_is_whole)
  have C_is_bound : Cal P w K mg base "is_bound" 3 ["thing"] (spD K p_is_bound) := ok_is_bound (T := T) (D := D_is_bound) (C_is_ratio := C_is_ratio)
  have C_Limits : MkLimits P w K mg base CL := ok_Limits_init T F_LI M_L C_is_bound
  have C_law_made : Cal P w K mg base "_law_made" 6 ["_law_limits"] (spD K (p_law_made CL)) := ok_law_made (T := T) (D := D_law_made) (C_Limits := C_Limits)
  have C_law_known_of : Cal P w K mg base "_law_known_of" 3 ["_law_hand_here", "_law_hum_here"] (spH K p_law_known_of) := ok_law_known_of (T := T) (D := D_law_known_of) (C_law_take := C_law_take)
  have C_law_plus : Cal P w K mg base "_law_plus" 3 ["_law_one", "_law_other"] (spD K p_law_plus) := ok_law_plus (T := T) (D := D_law_plus) (C_law_ratio := C_law_ratio)
  have C_law_added : Cal P w K mg base "_law_added" 4 ["_law_one", "_law_other"] (spD K p_law_added) := ok_law_added (T := T) (D := D_law_added) (C_law_plus := C_law_plus)
  have C_law_below : Cal P w K mg base "_law_below" 1 ["_law_one", "_law_other"] (spD K p_law_below) := ok_law_below (T := T) (D := D_law_below)
  have C_law_least : Cal P w K mg base "_law_least" 2 ["_law_one", "_law_other"] (spD K p_law_least) := ok_law_least (T := T) (D := D_law_least) (C_law_below := C_law_below)
  have C_law_reach : Cal P w K mg base "_law_reach" 5 ["_law_starts", "_law_steps", "_law_place"] (spD K p_law_reach) := ok_law_reach (T := T) (D := D_law_reach) (C_law_added := C_law_added) (C_law_least := C_law_least)
  have C_law_tight : Cal P w K mg base "_law_tight" 6 ["_law_limits"] (spD K p_law_tight) := ok_law_tight (T := T) (D := D_law_tight) (C_law_reach := C_law_reach) (C_law_least := C_law_least) (C_law_added := C_law_added)
  have C_law_minus_bound : Cal P w K mg base "_law_minus_bound" 1 ["_law_one"] (spD K p_law_minus_bound) := ok_law_minus_bound (T := T) (D := D_law_minus_bound)
  have C_law_higher : Cal P w K mg base "_law_higher" 2 ["_law_one", "_law_other"] (spD K p_law_higher) := ok_law_higher (T := T) (D := D_law_higher) (C_law_below := C_law_below)
  have C_law_less : Cal P w K mg base "_law_less" 3 ["_law_one", "_law_other"] (spD K p_law_less) := ok_law_less (T := T) (D := D_law_less) (C_law_ratio := C_law_ratio)
  have C_law_times : Cal P w K mg base "_law_times" 3 ["_law_one", "_law_other"] (spD K p_law_times) := ok_law_times (T := T) (D := D_law_times) (C_law_ratio := C_law_ratio)
  have C_law_share : Cal P w K mg base "_law_share" 4 ["_law_hand_here", "_law_low", "_law_high"] (spH K p_law_share) := ok_law_share (T := T) (D := D_law_share) (C_law_plus := C_law_plus) (C_law_ratio := C_law_ratio) (C_law_less := C_law_less) (C_law_times := C_law_times) (C_law_take := C_law_take)
  have C_law_hum_within : Cal P w K mg base "_law_hum_within" 7 ["_law_hand_here", "_law_limits"] (spH K p_law_hum_within) := ok_law_hum_within (T := T) (D := D_law_hum_within) (C_law_tight := C_law_tight) (C_law_minus_bound := C_law_minus_bound) (C_law_least := C_law_least) (C_law_higher := C_law_higher) (C_law_share := C_law_share) (C_law_plus := C_law_plus) (C_law_less := C_law_less)
  have C_law_known : Cal P w K mg base "_law_known" 8 ["_law_hand_here", "_law_limits"] (spH K p_law_known) := ok_law_known (T := T) (D := D_law_known) (C_law_take := C_law_take) (C_law_known_of := C_law_known_of) (C_law_hum_within := C_law_hum_within) (C_law_plus := C_law_plus) (C_law_ratio := C_law_ratio)
  have C_law_hum : Cal P w K mg base "_law_hum" 3 ["_law_hand_here", "_law_count"] (spH K p_law_hum) := ok_law_hum (T := T) (D := D_law_hum) (C_law_take := C_law_take) (C_law_ratio := C_law_ratio)
  have C_law_drawn : Cal P w K mg base "_law_drawn" 9 ["_law_hand_here", "_law_limits"] (spH K p_law_drawn) := ok_law_drawn (T := T) (D := D_law_drawn) (C_law_take := C_law_take) (C_law_known_of := C_law_known_of) (C_law_known := C_law_known) (C_law_hum := C_law_hum)
  have C_law_odd_ratio : Cal P w K mg base "_law_odd_ratio" 3 ["_law_hand_here"] (spH K p_law_odd_ratio) := ok_law_odd_ratio (T := T) (D := D_law_odd_ratio) (C_law_take := C_law_take)
  have C_law_spoilt : Cal P w K mg base "_law_spoilt" 4 ["_law_hand_here", "_law_many_here", "_law_known_here"] (spH K p_law_spoilt) := ok_law_spoilt (T := T) (D := D_law_spoilt) (C_law_take := C_law_take) (C_law_ratio := C_law_ratio) (C_law_odd_ratio := C_law_odd_ratio)
  have C_law_is_ratio : Cal P w K mg base "_law_is_ratio" 2 ["_law_thing"] (spD K p_law_is_ratio) := ok_law_is_ratio (T := T) (D := D_law_is_ratio) (C_law_gcd := C_law_gcd)
  have C_law_word_due : Cal P w K mg base "_law_word_due" 3 ["_law_many_here", "_law_known_here"] (spD K p_law_word_due) := ok_law_word_due (T := T) (D := D_law_word_due) (C_law_is_ratio := C_law_is_ratio)
  have C_is_section : Cal P w K mg base "is_section" 2 ["count", "section"] (spD K p_is_section) := ok_is_section (T := T) (D := D_is_section) (C_is_whole := C_is_whole)
  have C_check_known : CalX P w K mg base CB "check_known" 7 ["limits", "known"] (p_check_known CL) := ok_check_known (T := T) (D := D_check_known) (C_is_section := C_is_section) (C_is_ratio := C_is_ratio) (C_Limits_len := C_Limits_len) (B := B)
  have C_compare : Cal P w K mg base "compare" 1 ["one", "other"] (spD K p_compare) := ok_compare (T := T) (D := D_compare)
  have C_lesser_bound : Cal P w K mg base "lesser_bound" 2 ["one", "other"] (spD K p_lesser_bound) := ok_lesser_bound (T := T) (D := D_lesser_bound) (C_compare := C_compare)
  have C_lowest : Cal P w K mg base "lowest" 2 ["top", "bottom"] (spD K p_lowest) := ok_lowest (T := T) (D := D_lowest) (C_shared_divisor := C_shared_divisor)
  have C_plus : Cal P w K mg base "plus" 3 ["one", "other"] (spD K p_plus) := ok_plus (T := T) (D := D_plus) (C_lowest := C_lowest)
  have C_bounds_added : Cal P w K mg base "bounds_added" 4 ["one", "other"] (spD K p_bounds_added) := ok_bounds_added (T := T) (D := D_bounds_added) (C_plus := C_plus)
  have C_led_along : Cal P w K mg base "led_along" 5 ["starts", "steps"] (spD K p_led_along) := ok_led_along (T := T) (D := D_led_along) (C_lesser_bound := C_lesser_bound) (C_bounds_added := C_bounds_added)
  have C_tighten : Cal P w K mg base "tighten" 6 ["limits"] (spD K (p_tighten CL)) := ok_tighten (T := T) (D := D_tighten) (C_led_along := C_led_along) (C_lesser_bound := C_lesser_bound) (C_bounds_added := C_bounds_added) (C_Limits := C_Limits)
  have C_passes_bound : Cal P w K mg base "passes_bound" 2 ["one", "other"] (spD K p_passes_bound) := ok_passes_bound (T := T) (D := D_passes_bound) (C_compare := C_compare)
  have C_size_of : Cal P w K mg base "size_of" 1 ["one"] (spD K p_size_of) := ok_size_of (T := T) (D := D_size_of)
  have C_distance_between : Cal P w K mg base "distance_between" 5 ["steps", "first", "second"] (spD K p_distance_between) := ok_distance_between (T := T) (D := D_distance_between) (C_bounds_added := C_bounds_added)
  have C_minus : Cal P w K mg base "minus" 3 ["one", "other"] (spD K p_minus) := ok_minus (T := T) (D := D_minus) (C_lowest := C_lowest)
  have C_clash_of : Cal P w K mg base "clash_of" 6 ["tight", "steps", "values"] (spD K (p_clash_of CL CC)) := ok_clash_of (T := T) (D := D_clash_of) (C_passes_bound := C_passes_bound) (C_size_of := C_size_of) (C_distance_between := C_distance_between) (C_minus := C_minus) (C_Clash := C_Clash)
  have C_hum_through : CalX P w K mg base CB "hum_through" 8 ["limits", "known"] (p_hum_through CL CC) := ok_hum_through (T := T) (D := D_hum_through) (C_check_known := C_check_known) (C_tighten := C_tighten) (C_clash_of := C_clash_of) (C_led_along := C_led_along) (B := B)
  have C_law_passes : Cal P w K mg base "_law_passes" 2 ["_law_one", "_law_other"] (spD K p_law_passes) := ok_law_passes (T := T) (D := D_law_passes) (C_law_below := C_law_below)
  have C_law_size : Cal P w K mg base "_law_size" 1 ["_law_one"] (spD K p_law_size) := ok_law_size (T := T) (D := D_law_size)
  have C_law_far : Cal P w K mg base "_law_far" 5 ["_law_steps", "_law_first", "_law_second"] (spD K p_law_far) := ok_law_far (T := T) (D := D_law_far) (C_law_added := C_law_added)
  have C_law_clash : Cal P w K mg base "_law_clash" 7 ["_law_limits", "_law_known_here"] (spD K p_law_clash) := ok_law_clash (T := T) (D := D_law_clash) (C_law_tight := C_law_tight) (C_law_passes := C_law_passes) (C_law_size := C_law_size) (C_law_less := C_law_less) (C_law_far := C_law_far)
  have C_law_keeping : Cal P w K mg base "_law_keeping" 7 ["_law_hand_here", "_law_limits", "_law_known_here"] (spH K p_law_keeping) := ok_law_keeping (T := T) (D := D_law_keeping) (C_law_tight := C_law_tight) (C_law_minus_bound := C_law_minus_bound) (C_law_least := C_law_least) (C_law_higher := C_law_higher) (C_law_share := C_law_share) (C_law_plus := C_law_plus) (C_law_less := C_law_less) (C_law_far := C_law_far) (C_law_added := C_law_added)
  have C_law_is_limits : Cal P w K mg base "_law_is_limits" 3 ["_law_thing", "_law_limits"] (spD K (p_law_is_limits CL)) := ok_law_is_limits (T := T) (D := D_law_is_limits) (C_law_is_ratio := C_law_is_ratio)
  have C_law_is_row : Cal P w K mg base "_law_is_row" 3 ["_law_thing", "_law_many_here"] (spD K p_law_is_row) := ok_law_is_row (T := T) (D := D_law_is_row) (C_law_is_ratio := C_law_is_ratio)
  have C_law_due : Cal P w K mg base "_law_due" 7 ["_law_limits", "_law_known_here"] (spD K p_law_due) := ok_law_due (T := T) (D := D_law_due) (C_law_tight := C_law_tight) (C_law_far := C_law_far) (C_law_least := C_law_least) (C_law_added := C_law_added)
  have C_law_within : Cal P w K mg base "_law_within" 4 ["_law_hum_here", "_law_limits"] (spD K p_law_within) := ok_law_within (T := T) (D := D_law_within) (C_law_below := C_law_below) (C_law_size := C_law_size) (C_law_less := C_law_less)
  have C_law_keeps : Cal P w K mg base "_law_keeps" 1 ["_law_hum_here", "_law_known_here"] (spD K p_law_keeps) := ok_law_keeps (T := T) (D := D_law_keeps)
  have C_law_value : Cal P w K mg base "_law_value" 1 ["_law_known_here", "_law_section"] (spD K p_law_value) := ok_law_value (T := T) (D := D_law_value)
  have C_law_bounded : Cal P w K mg base "_law_bounded" 6 ["_law_limits", "_law_known_here", "_law_place"] (spD K p_law_bounded) := ok_law_bounded (T := T) (D := D_law_bounded) (C_law_far := C_law_far) (C_law_value := C_law_value)
  have C_law_through_right : Cal P w K mg base "_law_through_right" 9 ["_law_hand_here", "_law_limits", "_law_known_here"] (spH K p_law_through_right) := ok_law_through_right (T := T) (D := D_law_through_right) (C_law_made := C_law_made) (C_hum_through := C_hum_through) (C_law_clash := C_law_clash) (C_law_keeping := C_law_keeping) (C_law_is_limits := C_law_is_limits) (C_law_is_row := C_law_is_row) (C_law_due := C_law_due) (C_law_within := C_law_within) (C_law_keeps := C_law_keeps) (C_law_below := C_law_below) (C_law_bounded := C_law_bounded) (C_Clash := C_Clash) (C_Clash_eq := C_Clash_eq)
  have C_law_refused : Cal P w K mg base "_law_refused" 9 ["_law_one", "_law_known_here", "_law_through"] (spD K (p_law_refused CL)) := ok_law_refused (T := T) (D := D_law_refused) (C_hum_through := C_hum_through) (C_check_known := C_check_known) (B := B) (XF := XF) (CM := CM)
  exact ok_law (T := T) (F := F) (C_law_hand := C_law_hand) (C_law_many := C_law_many) (C_law_bounds := C_law_bounds) (C_law_made := C_law_made) (C_law_drawn := C_law_drawn) (C_law_spoilt := C_law_spoilt) (C_law_word_due := C_law_word_due) (C_law_through_right := C_law_through_right) (C_law_refused := C_law_refused) (C_check_known := C_check_known)
theorem def_use {K : PySem.W.Frag} {h : Heap} {mg : Str → Option Value} {x : Str} {st : Stmt} {goal : Prop} (X : K.In h) (G : h.Ns mainGlobals mg) {f : Addr} {oc : Value} {od an : Option Addr} {osl : Array (Option Value)} {kV doc pm cdv ct : Value}
    (a : PySem.W.nsIn K mainGlobals x = some (some (.ref f))) (l : K.lookup f = some ⟨oc, od, .func (PySem.W.fnOf x x (defArgs st) (defBody st) (defScope st) .none kV doc pm an cdv ct), osl⟩)
    (c : PySem.W.codeIn K cdv x = true) (k : PySem.W.keepIn K (.ref f) = true) (go : Def K mg x st → goal) : goal := go ⟨f, _, fun_mk l c k, PySem.W.mg_of X G a⟩
theorem exm_self {K : PySem.W.Frag} {S : Addr} (h1 : PySem.W.subIn K (.ref S) (.type "BaseException") = some true) (h2 : PySem.W.isClsIn K S = true) (h3 : PySem.W.typeIn K (.ref S) = some (.type "type")) (h4 : PySem.W.subIn K (.ref S) (.ref S) = some true) :
    PySem.W.exmOne K (.ref S) (.ref S) = some true := by
  have e1 : (PySem.W.subIn K (.ref S) (.type "BaseException") == some true) = true := by rw [h1] <;> rfl
  have e2 : ((PySem.W.clsIn K S).isSome && PySem.W.typeIn K (.ref S) == some (.type "type")) = true := by
    have h2' : (PySem.W.clsIn K S).isSome = true := h2
    rw [h2', h3] <;> rfl
  show (if (PySem.W.subIn K (.ref S) (.type "BaseException") == some true) = true then (if ((PySem.W.clsIn K S).isSome && PySem.W.typeIn K (.ref S) == some (.type "type")) = true then PySem.W.subIn K (.ref S) (.ref S) else none) else none) = some true
  rw [if_pos e1, if_pos e2]
  exact h4
/-- a class of the text, its objects' fields read plainly -/
theorem own_use {K : PySem.W.Frag} {h : Heap} {goal : Prop} {C : Addr} {mg : Str → Option Value} {xn : Str} (X : K.In h) (g : mg xn = some (.ref C)) (pg : PySem.W.plainGet K C Str.empty = true) (hd : PySem.W.hasDictIn K C = true) (po : PySem.W.plainOver K C = true) (sa : PySem.W.findIn K (.ref C) "__setattr__" = some (some (.builtin "object.__setattr__")))
    (ha : PySem.W.findIn K (.ref C) "__class__" = some (some (.builtin "object.__class__"))) (hn : PySem.W.specialIn K (.builtin "object.__class__") "__get__" = some (some (.builtin "getset_descriptor.__get__"))) (htk : PySem.W.takesIn K (.builtin "object.__class__") = some true)
    (hm : PySem.W.mroIn K C (.type "object") = some true) (go : OwnTy K C → goal) : goal := go ⟨⟨pg, hd, po, sa⟩, ha, hn, htk, hm⟩
theorem mk_use {K : PySem.W.Frag} {h : Heap} {goal : Prop} {C f : Addr} {mg : Str → Option Value} {xn : Str} (X : K.In h) (g : mg xn = some (.ref C)) (a : PySem.W.findIn K (.ref C) "__init__" = some (some (.ref f))) (m : PySem.W.makesIn K C = true) (i : PySem.W.isFn K (.ref f) = true) (k : PySem.W.keepIn K (.ref C) = true) (go : Mk K C f → goal) : goal := go ⟨m, a, i, k⟩
theorem meth_use {K : PySem.W.Frag} {h : Heap} {x qual : Str} {st : Stmt} {goal : Prop} {mg : Str → Option Value} {xn : Str} (X : K.In h) {C f : Addr} {oc : Value} {od an : Option Addr} {osl : Array (Option Value)} {kV doc pm cdv ct : Value} (g : mg xn = some (.ref C))
    (a : PySem.W.findIn K (.ref C) x = some (some (.ref f))) (i : PySem.W.isFn K (.ref f) = true) (l : K.lookup f = some ⟨oc, od, .func (PySem.W.fnOf x qual (defArgs st) (defBody st) (defScope st) .none kV doc pm an cdv ct), osl⟩)
    (c : PySem.W.codeIn K cdv qual = true) (k : PySem.W.keepIn K (.ref f) = true) (go : ∀ fd, Fun K x qual st f fd → PySem.W.findIn K (.ref C) x = some (some (.ref f)) → PySem.W.isFn K (.ref f) = true → goal) : goal := go _ (fun_mk l c k) a i
theorem zero_use {K : PySem.W.Frag} {h : Heap} {mg : Str → Option Value} {goal : Prop} (X : K.In h) (G : h.Ns mainGlobals mg) {z : Addr} {od : Option Addr} {t0 t1 : Tok} {n : Nat} {osl : Array (Option Value)} (a : PySem.W.nsIn K mainGlobals "ZERO" = some (some (.ref z)))
    (l : K.lookup z = some ⟨.type "tuple", od, .seq #[.int 0 t0, .int 1 t1] n, osl⟩) (go : (∃ z : Addr, mg "ZERO" = some (.ref z) ∧ ∀ G : Hp, Rep K G (.ref z) (rat 0)) → goal) : goal :=
  go ⟨z, PySem.W.mg_of X G a, fun _ => .tup (ys := [.int 0, .int 1]) (.inr ⟨_, _, _, l, rfl, rfl, (by rw [sizeLine_eq]; show 2 ≤ 16777216; decide), .cons ⟨t0, rfl⟩ (.cons ⟨t1, rfl⟩ .nil)⟩) (.cons (.int 0) (.cons (.int 1) .nil))⟩
theorem most_use {K : PySem.W.Frag} {h : Heap} {mg : Str → Option Value} {goal : Prop} (X : K.In h) (G : h.Ns mainGlobals mg) {t : Tok} (a : PySem.W.nsIn K mainGlobals "MOST_SECTIONS" = some (some (.int 24 t))) (go : (∃ t, mg "MOST_SECTIONS" = some (.int 24 t)) → goal) : goal := go ⟨t, PySem.W.mg_of X G a⟩
theorem no_use {K : PySem.W.Frag} {h : Heap} {mg : Str → Option Value} {x : Str} {goal : Prop} (X : K.In h) (G : h.Ns mainGlobals mg) (a : PySem.W.nsIn K mainGlobals x = some none) (go : mg x = none → goal) : goal := go (PySem.W.mg_none_of X G a)
theorem cls_use {K : PySem.W.Frag} {h : Heap} {mg : Str → Option Value} {x : Str} {goal : Prop} {C : Addr} (X : K.In h) (G : h.Ns mainGlobals mg) (a : PySem.W.nsIn K mainGlobals x = some (some (.ref C))) (go : mg x = some (.ref C) → goal) : goal := go (PySem.W.mg_of X G a)
theorem whole_use {K : PySem.W.Frag} {h : Heap} {mg : Str → Option Value} {goal : Prop} (X : K.In h) (G : h.Ns mainGlobals mg) {f Td : Addr} {oc : Value} {od an : Option Addr} {osl : Array (Option Value)} {kV doc pm cdv ct : Value} {o : Obj} {n : Nat}
    (a : PySem.W.nsIn K mainGlobals "is_whole" = some (some (.ref f))) (l : K.lookup f = some ⟨oc, od, .func (PySem.W.fnOf "is_whole" "is_whole" (defArgs s_is_whole) (defBody s_is_whole) (defScope s_is_whole) (.ref Td) kV doc pm an cdv ct), osl⟩)
    (c : PySem.W.codeIn K cdv "is_whole" = true) (k : PySem.W.keepIn K (.ref f) = true) (d : K.lookup Td = some o) (e : o.data = .seq #[.none, .none] n) (go : DefD K mg "is_whole" s_is_whole [.non, .non] → goal) : goal :=
  go ⟨f, _, ⟨⟨oc, od, .ref Td, kV, doc, pm, an, cdv, ct, osl, rfl, l, c, .inr ⟨by simp, Td, o, [.none, .none], n, rfl, d, e, .cons rfl (.cons rfl .nil)⟩, .inl rfl⟩, k⟩, PySem.W.mg_of X G a⟩
theorem bad_use {P : Program} {K : PySem.W.Frag} {h : Heap} {mg : Str → Option Value} {goal : Prop} {C fI : Addr} (X : K.In h) (G : h.Ns mainGlobals mg)
    {nm q : Str} {N : Addr} {bs bm : List Value} {sn : List Str} {sub : List Value} {ab : Bool} {col : Option Bool} {dd : Option Addr} {m0 m1 m2 m3 m5 : Option Value}
    {oc : Value} {od : Option Addr} {doc pm : Value} {an : Option Addr} {cda : Addr} {ct : Value} {cc : Addr} {osl : Array (Option Value)} {cl : Value} {cld : Option Addr} {csl : Array (Option Value)} {ccl : Value} {cdd : Option Addr} {ccs : Array (Option Value)} {vs : Array Value} {file : Str} {tf : Tok}
    (gC : mg "BadValues" = some (.ref C)) (xL : K.lookup C = some (excClassObj nm q C N bs bm true sn sub ab col dd m0 m1 m2 m3 m5 "ValueError.__new__")) (xr : PySem.HandSPX.refsVE bm = true)
    (sa : PySem.W.findIn K (.ref C) "__setattr__" = some (some (.builtin "object.__setattr__"))) (ga : PySem.W.findIn K (.ref C) "__getattribute__" = some (some (.builtin "BaseException.__getattribute__"))) (gg : PySem.W.findIn K (.ref C) "__getattr__" = some none)
    (noI : PySem.W.findIn K (.ref C) "index" = some none) (noW : PySem.W.findIn K (.ref C) "what" = some none) (iC : PySem.W.findIn K (.ref C) "__init__" = some (some (.ref fI))) (tC : PySem.W.typeIn K (.ref fI) = some (.type "function")) (kC : PySem.W.keepIn K (.ref C) = true)
    (exC : PySem.W.subIn K (.ref C) (.type "BaseException") = some true) (tyC : PySem.W.typeIn K (.ref C) = some (.type "type")) (hdC : PySem.W.hasDictIn K C = true) (su : PySem.W.ks_superIn K C C "__init__" = some (some (.builtin "ValueError.__init__"))) (sv : PySem.W.subIn K (.ref C) (.type "ValueError") = some true)
    (sC : PySem.W.mroIn K C (.ref C) = some true) (op : PySem.W.nsIn K cStatics "thirdparty.any" = some none) (sp : mg "super" = none) (htop : (P.main.scope.names.lookup ("super" : Str)).isSome = false)
    (i1 : K.lookup fI = some ⟨oc, od, .func (PySem.W.ksFn "__init__" "BadValues.__init__" PySem.BadX.iA PySem.BadX.iB PySem.BadX.iS .none .none doc pm an (.ref cda) ct cc), osl⟩) (i2 : PySem.W.codeIn K (.ref cda) "BadValues.__init__" = true)
    (i3 : K.lookup cc = some ⟨cl, cld, .cell (some (.ref C)), csl⟩) (i4 : K.lookup cda = some ⟨ccl, cdd, .fields vs, ccs⟩) (i5 : vs[2]? = some (.str file tf)) (i6 : ((P.main.file : Str) == file) = true) (isC : PySem.W.isClsIn K C = true) (ss : PySem.W.subIn K (.ref C) (.ref C) = some true)
    (go : PySem.BadX.BadTxt P K mg C fI → XfC K C → PySem.W.exmOne K (.ref C) (.ref C) = some true → goal) : goal :=
  go ⟨gC, ⟨nm, q, N, bs, bm, sn, sub, ab, col, dd, m0, m1, m2, m3, m5, xL, xr⟩, sa, ga, gg, noI, noW, iC, tC, kC, exC, tyC, hdC, su, sv, sC, op, sp, htop, oc, od, doc, pm, an, cda, ct, cc, osl, i1, i2, ⟨cl, cld, csl, i3⟩, ccl, cdd, ccs, vs, file, tf, i4, i5, i6⟩ ⟨ga, gg, exC, hdC⟩ (exm_self exC isC tyC ss)
theorem na_use {K : PySem.W.Frag} {h : Heap} {goal : Prop} {C : Addr} {x : Str} {mg : Str → Option Value} {xn : Str} (X : K.In h) (g : mg xn = some (.ref C)) (a : PySem.W.findIn K (.ref C) x = some none) (go : NoAttr K C x → goal) : goal := go a
theorem law_use {P : Program} {w : World} {K : PySem.W.Frag} {h : Heap} {mg : Str → Option Value} {fa f : Addr} {k : Nat} (X : K.In h) (G : h.Ns mainGlobals mg) (hfa : mg "law" = some (.ref fa)) {oc : Value} {od an : Option Addr} {osl : Array (Option Value)} {kV doc pm cdv ct : Value}
    (a : PySem.W.nsIn K mainGlobals "law" = some (some (.ref f))) (l : K.lookup f = some ⟨oc, od, .func (PySem.W.fnOf "law" "law" (defArgs s_law) (defBody s_law) (defScope s_law) .none kV doc pm an cdv ct), osl⟩)
    (c : PySem.W.codeIn K cdv "law" = true) (kp : PySem.W.keepIn K (.ref f) = true) (go : ∀ (base : Heap) (fd : FuncData), Fun K "law" "law" s_law f fd → FnOk P w K mg base CX0 k f fd ["_law_script"] (spLaw K)) :
    ∃ fd : FuncData, (∀ (s : Shared) (u : Value), BindsTo s fd ⟨[u], []⟩ [("_law_script", u)]) ∧ ∀ base : Heap, K.In base → base.Ns mainGlobals mg → FnOk P w K mg base CX0 k fa fd ["_law_script"] (spLaw K) := by
  have e := hfa.symm.trans (PySem.W.mg_of X G a)
  cases e
  exact ⟨_, fun s u => .of_eq rfl, fun base _ _ => go base _ (fun_mk l c kp)⟩
end K20
open PySem PySem.W PyProof.Rows
set_option maxRecDepth 100000 in
set_option maxHeartbeats 0 in
theorem PySem.Challenge.cw_hushedwires_k20_whole_hums_through_known_holds : PySem.Challenge.rw_hushedwires_k20_whole_hums_through_known.Holds := by
  w_on; o_law; k_head; (case hw => w_witness2)
  k_fill
  refine L2.walk_ofK (n := 63) (k := 10) (x := "_law_script") (CX := L2.CX0) (sp := K20.spLaw) (l := PySem.Challenge.rw_hushedwires_k20_whole_hums_through_known) rfl (by decide) rfl ⟨rfl, by decide, by decide⟩ (fun w h Y => PySem.W.kIn_of Y) ?F (fun _ _ a ns hl _ hS => ⟨a, ns, rfl, hS, hl, fun _ => rfl⟩) fun _ _ _ _ z => z
  case F =>
    intro w mg fa h KX G hmg
    refine' K20.no_use KX G (x := "len") ?a fun b_len => ?_
    (case a => k_is)
    refine' K20.no_use KX G (x := "range") ?a fun b_range => ?_
    (case a => k_is)
    refine' K20.no_use KX G (x := "isinstance") ?a fun b_isinstance => ?_
    (case a => k_is)
    refine' K20.no_use KX G (x := "abs") ?a fun b_abs => ?_
    (case a => k_is)
    refine' K20.no_use KX G (x := "int") ?a fun b_int => ?_
    (case a => k_is)
    refine' K20.no_use KX G (x := "bool") ?a fun b_bool => ?_
    (case a => k_is)
    refine' K20.no_use KX G (x := "list") ?a fun b_list => ?_
    (case a => k_is)
    refine' K20.no_use KX G (x := "tuple") ?a fun b_tuple => ?_
    (case a => k_is)
    refine' K20.no_use KX G (x := "min") ?a fun b_min => ?_
    (case a => k_is)
    refine' K20.no_use KX G (x := "max") ?a fun b_max => ?_
    (case a => k_is)
    refine' K20.no_use KX G (x := "super") ?a fun b_super => ?_
    (case a => k_is)
    refine' K20.zero_use KX G ?a ?l fun hZ => ?_
    (case a => k_is); (case l => k_is)
    refine' K20.most_use KX G ?a fun hM => ?_
    (case a => k_is)
    refine' K20.cls_use KX G (x := "Limits") ?a fun gL => ?_
    (case a => k_is)
    refine' K20.cls_use KX G (x := "Clash") ?a fun gC => ?_
    (case a => k_is)
    refine' K20.cls_use KX G (x := "BadValues") ?a fun gB => ?_
    (case a => k_is)
    refine' K20.own_use KX gL ?pg ?hd ?po ?sa ?ha ?hn ?htk ?hm fun oL => ?_
    (case pg => (first | k_is | kernel_rfl | rfl)); (case hd => (first | k_is | kernel_rfl | rfl)); (case po => (first | k_is | kernel_rfl | rfl)); (case sa => (first | k_is | kernel_rfl | rfl)); (case ha => (first | k_is | kernel_rfl | rfl)); (case hn => (first | k_is | kernel_rfl | rfl)); (case htk => (first | k_is | kernel_rfl | rfl)); (case hm => (first | k_is | kernel_rfl | rfl))
    refine' K20.own_use KX gC ?pg ?hd ?po ?sa ?ha ?hn ?htk ?hm fun oC => ?_
    (case pg => (first | k_is | kernel_rfl | rfl)); (case hd => (first | k_is | kernel_rfl | rfl)); (case po => (first | k_is | kernel_rfl | rfl)); (case sa => (first | k_is | kernel_rfl | rfl)); (case ha => (first | k_is | kernel_rfl | rfl)); (case hn => (first | k_is | kernel_rfl | rfl)); (case htk => (first | k_is | kernel_rfl | rfl)); (case hm => (first | k_is | kernel_rfl | rfl))
    refine' K20.na_use KX (x := "mosts") gL ?a fun n1 => ?_
    (case a => (first | k_is | kernel_rfl | rfl))
    refine' K20.na_use KX (x := "steps") gL ?a fun n2 => ?_
    (case a => (first | k_is | kernel_rfl | rfl))
    refine' K20.na_use KX (x := "first") gC ?a fun n3 => ?_
    (case a => (first | k_is | kernel_rfl | rfl))
    refine' K20.na_use KX (x := "second") gC ?a fun n4 => ?_
    (case a => (first | k_is | kernel_rfl | rfl))
    have T := K20.Txt.mk (CB := 0) ⟨b_len, b_range, b_isinstance, b_abs, b_int, b_bool, b_list, b_tuple, b_min, b_max⟩ hZ hM gL gC oL oC n1 n2 n3 n4
    refine' K20.mk_use KX gL ?a ?m ?i ?k fun M_L => ?_
    (case a => k_is); (case m => (first | k_is | kernel_rfl | rfl)); (case i => (first | k_is | kernel_rfl | rfl)); (case k => (first | k_is | kernel_rfl | rfl))
    refine' K20.mk_use KX gC ?a ?m ?i ?k fun M_C => ?_
    (case a => k_is); (case m => (first | k_is | kernel_rfl | rfl)); (case i => (first | k_is | kernel_rfl | rfl)); (case k => (first | k_is | kernel_rfl | rfl))
    refine' K20.meth_use KX (x := "__init__") (qual := "Limits.__init__") (st := K20.s_Limits___init__) gL ?a ?i ?l ?c ?k fun dLI F_LI A_LI I_LI => ?_
    (case a => k_is); (case i => (first | k_is | kernel_rfl | rfl)); (case l => k_is); (case c => k_is); (case k => k_is)
    refine' K20.meth_use KX (x := "__len__") (qual := "Limits.__len__") (st := K20.s_Limits___len__) gL ?a ?i ?l ?c ?k fun dLL F_LL A_LL I_LL => ?_
    (case a => k_is); (case i => (first | k_is | kernel_rfl | rfl)); (case l => k_is); (case c => k_is); (case k => k_is)
    refine' K20.meth_use KX (x := "__init__") (qual := "Clash.__init__") (st := K20.s_Clash___init__) gC ?a ?i ?l ?c ?k fun dCI F_CI A_CI I_CI => ?_
    (case a => k_is); (case i => (first | k_is | kernel_rfl | rfl)); (case l => k_is); (case c => k_is); (case k => k_is)
    refine' K20.meth_use KX (x := "__eq__") (qual := "Clash.__eq__") (st := K20.s_Clash___eq__) gC ?a ?i ?l ?c ?k fun dCE F_CE A_CE I_CE => ?_
    (case a => k_is); (case i => (first | k_is | kernel_rfl | rfl)); (case l => k_is); (case c => k_is); (case k => k_is)
    refine' K20.whole_use KX G ?a ?l ?c ?k ?d ?e fun D_is_whole => ?_
    (case a => k_is); (case l => k_is); (case c => k_is); (case k => k_is); (case d => k_is); (case e => rfl)
    refine' K20.bad_use (P := PySem.Challenge.rw_hushedwires_k20_whole_hums_through_known.prog) KX G gB ?xL ?xr ?sa ?ga ?gg ?noI ?noW ?iC ?tC ?kC ?exC ?tyC ?hdC ?su ?sv ?sC ?op b_super ?htop ?i1 ?i2 ?i3 ?i4 ?i5 ?i6 ?isC ?ss fun B XF CM => ?_
    (case xL => (first | k_is | kernel_rfl | rfl))
    (case xr => decide +kernel)
    (case sa => (first | k_is | kernel_rfl | rfl))
    (case ga => (first | k_is | kernel_rfl | rfl))
    (case gg => (first | k_is | kernel_rfl | rfl))
    (case noI => (first | k_is | kernel_rfl | rfl))
    (case noW => (first | k_is | kernel_rfl | rfl))
    (case iC => (first | k_is | kernel_rfl | rfl))
    (case tC => (first | k_is | kernel_rfl | rfl))
    (case kC => (first | k_is | kernel_rfl | rfl))
    (case exC => (first | k_is | kernel_rfl | rfl))
    (case tyC => (first | k_is | kernel_rfl | rfl))
    (case hdC => (first | k_is | kernel_rfl | rfl))
    (case su => first | ks_is | k_is | kernel_rfl)
    (case sv => (first | k_is | kernel_rfl | rfl))
    (case sC => (first | k_is | kernel_rfl | rfl))
    (case op => (first | k_is | kernel_rfl | rfl))
    (case htop => first | rfl | decide +kernel)
    (case i1 => (first | k_is | kernel_rfl | rfl))
    (case i2 => (first | k_is | kernel_rfl | rfl))
    (case i3 => (first | k_is | kernel_rfl | rfl))
    (case i4 => (first | k_is | kernel_rfl | rfl))
    (case i5 => rfl)
    (case i6 => first | rfl | decide +kernel)
    (case isC => (first | k_is | kernel_rfl | rfl))
    (case ss => (first | k_is | kernel_rfl | rfl))
    refine' K20.def_use KX G (x := "_law_hand") (st := K20.s_law_hand) ?a ?l ?c ?k fun D_law_hand => ?_
    (case a => (first | k_is | kernel_rfl | rfl)); (case l => (first | k_is | kernel_rfl | rfl)); (case c => (first | k_is | kernel_rfl | rfl)); (case k => (first | k_is | kernel_rfl | rfl))
    refine' K20.def_use KX G (x := "_law_mixed") (st := K20.s_law_mixed) ?a ?l ?c ?k fun D_law_mixed => ?_
    (case a => (first | k_is | kernel_rfl | rfl)); (case l => (first | k_is | kernel_rfl | rfl)); (case c => (first | k_is | kernel_rfl | rfl)); (case k => (first | k_is | kernel_rfl | rfl))
    refine' K20.def_use KX G (x := "_law_take") (st := K20.s_law_take) ?a ?l ?c ?k fun D_law_take => ?_
    (case a => (first | k_is | kernel_rfl | rfl)); (case l => (first | k_is | kernel_rfl | rfl)); (case c => (first | k_is | kernel_rfl | rfl)); (case k => (first | k_is | kernel_rfl | rfl))
    refine' K20.def_use KX G (x := "_law_many") (st := K20.s_law_many) ?a ?l ?c ?k fun D_law_many => ?_
    (case a => (first | k_is | kernel_rfl | rfl)); (case l => (first | k_is | kernel_rfl | rfl)); (case c => (first | k_is | kernel_rfl | rfl)); (case k => (first | k_is | kernel_rfl | rfl))
    refine' K20.def_use KX G (x := "_law_gcd") (st := K20.s_law_gcd) ?a ?l ?c ?k fun D_law_gcd => ?_
    (case a => (first | k_is | kernel_rfl | rfl)); (case l => (first | k_is | kernel_rfl | rfl)); (case c => (first | k_is | kernel_rfl | rfl)); (case k => (first | k_is | kernel_rfl | rfl))
    refine' K20.def_use KX G (x := "_law_ratio") (st := K20.s_law_ratio) ?a ?l ?c ?k fun D_law_ratio => ?_
    (case a => (first | k_is | kernel_rfl | rfl)); (case l => (first | k_is | kernel_rfl | rfl)); (case c => (first | k_is | kernel_rfl | rfl)); (case k => (first | k_is | kernel_rfl | rfl))
    refine' K20.def_use KX G (x := "_law_bound") (st := K20.s_law_bound) ?a ?l ?c ?k fun D_law_bound => ?_
    (case a => (first | k_is | kernel_rfl | rfl)); (case l => (first | k_is | kernel_rfl | rfl)); (case c => (first | k_is | kernel_rfl | rfl)); (case k => (first | k_is | kernel_rfl | rfl))
    refine' K20.def_use KX G (x := "_law_bounds") (st := K20.s_law_bounds) ?a ?l ?c ?k fun D_law_bounds => ?_
    (case a => (first | k_is | kernel_rfl | rfl)); (case l => (first | k_is | kernel_rfl | rfl)); (case c => (first | k_is | kernel_rfl | rfl)); (case k => (first | k_is | kernel_rfl | rfl))
    refine' K20.def_use KX G (x := "shared_divisor") (st := K20.s_shared_divisor) ?a ?l ?c ?k fun D_shared_divisor => ?_
    (case a => (first | k_is | kernel_rfl | rfl)); (case l => (first | k_is | kernel_rfl | rfl)); (case c => (first | k_is | kernel_rfl | rfl)); (case k => (first | k_is | kernel_rfl | rfl))
    refine' K20.def_use KX G (x := "is_ratio") (st := K20.s_is_ratio) ?a ?l ?c ?k fun D_is_ratio => ?_
    (case a => (first | k_is | kernel_rfl | rfl)); (case l => (first | k_is | kernel_rfl | rfl)); (case c => (first | k_is | kernel_rfl | rfl)); (case k => (first | k_is | kernel_rfl | rfl))
    refine' K20.def_use KX G (x := "is_bound") (st := K20.s_is_bound) ?a ?l ?c ?k fun D_is_bound => ?_
    (case a => (first | k_is | kernel_rfl | rfl)); (case l => (first | k_is | kernel_rfl | rfl)); (case c => (first | k_is | kernel_rfl | rfl)); (case k => (first | k_is | kernel_rfl | rfl))
    refine' K20.def_use KX G (x := "_law_made") (st := K20.s_law_made) ?a ?l ?c ?k fun D_law_made => ?_
    (case a => (first | k_is | kernel_rfl | rfl)); (case l => (first | k_is | kernel_rfl | rfl)); (case c => (first | k_is | kernel_rfl | rfl)); (case k => (first | k_is | kernel_rfl | rfl))
    refine' K20.def_use KX G (x := "_law_known_of") (st := K20.s_law_known_of) ?a ?l ?c ?k fun D_law_known_of => ?_
    (case a => (first | k_is | kernel_rfl | rfl)); (case l => (first | k_is | kernel_rfl | rfl)); (case c => (first | k_is | kernel_rfl | rfl)); (case k => (first | k_is | kernel_rfl | rfl))
    refine' K20.def_use KX G (x := "_law_plus") (st := K20.s_law_plus) ?a ?l ?c ?k fun D_law_plus => ?_
    (case a => (first | k_is | kernel_rfl | rfl)); (case l => (first | k_is | kernel_rfl | rfl)); (case c => (first | k_is | kernel_rfl | rfl)); (case k => (first | k_is | kernel_rfl | rfl))
    refine' K20.def_use KX G (x := "_law_added") (st := K20.s_law_added) ?a ?l ?c ?k fun D_law_added => ?_
    (case a => (first | k_is | kernel_rfl | rfl)); (case l => (first | k_is | kernel_rfl | rfl)); (case c => (first | k_is | kernel_rfl | rfl)); (case k => (first | k_is | kernel_rfl | rfl))
    refine' K20.def_use KX G (x := "_law_below") (st := K20.s_law_below) ?a ?l ?c ?k fun D_law_below => ?_
    (case a => (first | k_is | kernel_rfl | rfl)); (case l => (first | k_is | kernel_rfl | rfl)); (case c => (first | k_is | kernel_rfl | rfl)); (case k => (first | k_is | kernel_rfl | rfl))
    refine' K20.def_use KX G (x := "_law_least") (st := K20.s_law_least) ?a ?l ?c ?k fun D_law_least => ?_
    (case a => (first | k_is | kernel_rfl | rfl)); (case l => (first | k_is | kernel_rfl | rfl)); (case c => (first | k_is | kernel_rfl | rfl)); (case k => (first | k_is | kernel_rfl | rfl))
    refine' K20.def_use KX G (x := "_law_reach") (st := K20.s_law_reach) ?a ?l ?c ?k fun D_law_reach => ?_
    (case a => (first | k_is | kernel_rfl | rfl)); (case l => (first | k_is | kernel_rfl | rfl)); (case c => (first | k_is | kernel_rfl | rfl)); (case k => (first | k_is | kernel_rfl | rfl))
    refine' K20.def_use KX G (x := "_law_tight") (st := K20.s_law_tight) ?a ?l ?c ?k fun D_law_tight => ?_
    (case a => (first | k_is | kernel_rfl | rfl)); (case l => (first | k_is | kernel_rfl | rfl)); (case c => (first | k_is | kernel_rfl | rfl)); (case k => (first | k_is | kernel_rfl | rfl))
    refine' K20.def_use KX G (x := "_law_minus_bound") (st := K20.s_law_minus_bound) ?a ?l ?c ?k fun D_law_minus_bound => ?_
    (case a => (first | k_is | kernel_rfl | rfl)); (case l => (first | k_is | kernel_rfl | rfl)); (case c => (first | k_is | kernel_rfl | rfl)); (case k => (first | k_is | kernel_rfl | rfl))
    refine' K20.def_use KX G (x := "_law_higher") (st := K20.s_law_higher) ?a ?l ?c ?k fun D_law_higher => ?_
    (case a => (first | k_is | kernel_rfl | rfl)); (case l => (first | k_is | kernel_rfl | rfl)); (case c => (first | k_is | kernel_rfl | rfl)); (case k => (first | k_is | kernel_rfl | rfl))
    refine' K20.def_use KX G (x := "_law_less") (st := K20.s_law_less) ?a ?l ?c ?k fun D_law_less => ?_
    (case a => (first | k_is | kernel_rfl | rfl)); (case l => (first | k_is | kernel_rfl | rfl)); (case c => (first | k_is | kernel_rfl | rfl)); (case k => (first | k_is | kernel_rfl | rfl))
    refine' K20.def_use KX G (x := "_law_times") (st := K20.s_law_times) ?a ?l ?c ?k fun D_law_times => ?_
    (case a => (first | k_is | kernel_rfl | rfl)); (case l => (first | k_is | kernel_rfl | rfl)); (case c => (first | k_is | kernel_rfl | rfl)); (case k => (first | k_is | kernel_rfl | rfl))
    refine' K20.def_use KX G (x := "_law_share") (st := K20.s_law_share) ?a ?l ?c ?k fun D_law_share => ?_
    (case a => (first | k_is | kernel_rfl | rfl)); (case l => (first | k_is | kernel_rfl | rfl)); (case c => (first | k_is | kernel_rfl | rfl)); (case k => (first | k_is | kernel_rfl | rfl))
    refine' K20.def_use KX G (x := "_law_hum_within") (st := K20.s_law_hum_within) ?a ?l ?c ?k fun D_law_hum_within => ?_
    (case a => (first | k_is | kernel_rfl | rfl)); (case l => (first | k_is | kernel_rfl | rfl)); (case c => (first | k_is | kernel_rfl | rfl)); (case k => (first | k_is | kernel_rfl | rfl))
    refine' K20.def_use KX G (x := "_law_known") (st := K20.s_law_known) ?a ?l ?c ?k fun D_law_known => ?_
    (case a => (first | k_is | kernel_rfl | rfl)); (case l => (first | k_is | kernel_rfl | rfl)); (case c => (first | k_is | kernel_rfl | rfl)); (case k => (first | k_is | kernel_rfl | rfl))
    refine' K20.def_use KX G (x := "_law_hum") (st := K20.s_law_hum) ?a ?l ?c ?k fun D_law_hum => ?_
    (case a => (first | k_is | kernel_rfl | rfl)); (case l => (first | k_is | kernel_rfl | rfl)); (case c => (first | k_is | kernel_rfl | rfl)); (case k => (first | k_is | kernel_rfl | rfl))
    refine' K20.def_use KX G (x := "_law_drawn") (st := K20.s_law_drawn) ?a ?l ?c ?k fun D_law_drawn => ?_
    (case a => (first | k_is | kernel_rfl | rfl)); (case l => (first | k_is | kernel_rfl | rfl)); (case c => (first | k_is | kernel_rfl | rfl)); (case k => (first | k_is | kernel_rfl | rfl))
    refine' K20.def_use KX G (x := "_law_odd_ratio") (st := K20.s_law_odd_ratio) ?a ?l ?c ?k fun D_law_odd_ratio => ?_
    (case a => (first | k_is | kernel_rfl | rfl)); (case l => (first | k_is | kernel_rfl | rfl)); (case c => (first | k_is | kernel_rfl | rfl)); (case k => (first | k_is | kernel_rfl | rfl))
    refine' K20.def_use KX G (x := "_law_spoilt") (st := K20.s_law_spoilt) ?a ?l ?c ?k fun D_law_spoilt => ?_
    (case a => (first | k_is | kernel_rfl | rfl)); (case l => (first | k_is | kernel_rfl | rfl)); (case c => (first | k_is | kernel_rfl | rfl)); (case k => (first | k_is | kernel_rfl | rfl))
    refine' K20.def_use KX G (x := "_law_is_ratio") (st := K20.s_law_is_ratio) ?a ?l ?c ?k fun D_law_is_ratio => ?_
    (case a => (first | k_is | kernel_rfl | rfl)); (case l => (first | k_is | kernel_rfl | rfl)); (case c => (first | k_is | kernel_rfl | rfl)); (case k => (first | k_is | kernel_rfl | rfl))
    refine' K20.def_use KX G (x := "_law_word_due") (st := K20.s_law_word_due) ?a ?l ?c ?k fun D_law_word_due => ?_
    (case a => (first | k_is | kernel_rfl | rfl)); (case l => (first | k_is | kernel_rfl | rfl)); (case c => (first | k_is | kernel_rfl | rfl)); (case k => (first | k_is | kernel_rfl | rfl))
    refine' K20.def_use KX G (x := "is_section") (st := K20.s_is_section) ?a ?l ?c ?k fun D_is_section => ?_
    (case a => (first | k_is | kernel_rfl | rfl)); (case l => (first | k_is | kernel_rfl | rfl)); (case c => (first | k_is | kernel_rfl | rfl)); (case k => (first | k_is | kernel_rfl | rfl))
    refine' K20.def_use KX G (x := "check_known") (st := K20.s_check_known) ?a ?l ?c ?k fun D_check_known => ?_
    (case a => (first | k_is | kernel_rfl | rfl)); (case l => (first | k_is | kernel_rfl | rfl)); (case c => (first | k_is | kernel_rfl | rfl)); (case k => (first | k_is | kernel_rfl | rfl))
    refine' K20.def_use KX G (x := "compare") (st := K20.s_compare) ?a ?l ?c ?k fun D_compare => ?_
    (case a => (first | k_is | kernel_rfl | rfl)); (case l => (first | k_is | kernel_rfl | rfl)); (case c => (first | k_is | kernel_rfl | rfl)); (case k => (first | k_is | kernel_rfl | rfl))
    refine' K20.def_use KX G (x := "lesser_bound") (st := K20.s_lesser_bound) ?a ?l ?c ?k fun D_lesser_bound => ?_
    (case a => (first | k_is | kernel_rfl | rfl)); (case l => (first | k_is | kernel_rfl | rfl)); (case c => (first | k_is | kernel_rfl | rfl)); (case k => (first | k_is | kernel_rfl | rfl))
    refine' K20.def_use KX G (x := "lowest") (st := K20.s_lowest) ?a ?l ?c ?k fun D_lowest => ?_
    (case a => (first | k_is | kernel_rfl | rfl)); (case l => (first | k_is | kernel_rfl | rfl)); (case c => (first | k_is | kernel_rfl | rfl)); (case k => (first | k_is | kernel_rfl | rfl))
    refine' K20.def_use KX G (x := "plus") (st := K20.s_plus) ?a ?l ?c ?k fun D_plus => ?_
    (case a => (first | k_is | kernel_rfl | rfl)); (case l => (first | k_is | kernel_rfl | rfl)); (case c => (first | k_is | kernel_rfl | rfl)); (case k => (first | k_is | kernel_rfl | rfl))
    refine' K20.def_use KX G (x := "bounds_added") (st := K20.s_bounds_added) ?a ?l ?c ?k fun D_bounds_added => ?_
    (case a => (first | k_is | kernel_rfl | rfl)); (case l => (first | k_is | kernel_rfl | rfl)); (case c => (first | k_is | kernel_rfl | rfl)); (case k => (first | k_is | kernel_rfl | rfl))
    refine' K20.def_use KX G (x := "led_along") (st := K20.s_led_along) ?a ?l ?c ?k fun D_led_along => ?_
    (case a => (first | k_is | kernel_rfl | rfl)); (case l => (first | k_is | kernel_rfl | rfl)); (case c => (first | k_is | kernel_rfl | rfl)); (case k => (first | k_is | kernel_rfl | rfl))
    refine' K20.def_use KX G (x := "tighten") (st := K20.s_tighten) ?a ?l ?c ?k fun D_tighten => ?_
    (case a => (first | k_is | kernel_rfl | rfl)); (case l => (first | k_is | kernel_rfl | rfl)); (case c => (first | k_is | kernel_rfl | rfl)); (case k => (first | k_is | kernel_rfl | rfl))
    refine' K20.def_use KX G (x := "passes_bound") (st := K20.s_passes_bound) ?a ?l ?c ?k fun D_passes_bound => ?_
    (case a => (first | k_is | kernel_rfl | rfl)); (case l => (first | k_is | kernel_rfl | rfl)); (case c => (first | k_is | kernel_rfl | rfl)); (case k => (first | k_is | kernel_rfl | rfl))
    refine' K20.def_use KX G (x := "size_of") (st := K20.s_size_of) ?a ?l ?c ?k fun D_size_of => ?_
    (case a => (first | k_is | kernel_rfl | rfl)); (case l => (first | k_is | kernel_rfl | rfl)); (case c => (first | k_is | kernel_rfl | rfl)); (case k => (first | k_is | kernel_rfl | rfl))
    refine' K20.def_use KX G (x := "distance_between") (st := K20.s_distance_between) ?a ?l ?c ?k fun D_distance_between => ?_
    (case a => (first | k_is | kernel_rfl | rfl)); (case l => (first | k_is | kernel_rfl | rfl)); (case c => (first | k_is | kernel_rfl | rfl)); (case k => (first | k_is | kernel_rfl | rfl))
    refine' K20.def_use KX G (x := "minus") (st := K20.s_minus) ?a ?l ?c ?k fun D_minus => ?_
    (case a => (first | k_is | kernel_rfl | rfl)); (case l => (first | k_is | kernel_rfl | rfl)); (case c => (first | k_is | kernel_rfl | rfl)); (case k => (first | k_is | kernel_rfl | rfl))
    refine' K20.def_use KX G (x := "clash_of") (st := K20.s_clash_of) ?a ?l ?c ?k fun D_clash_of => ?_
    (case a => (first | k_is | kernel_rfl | rfl)); (case l => (first | k_is | kernel_rfl | rfl)); (case c => (first | k_is | kernel_rfl | rfl)); (case k => (first | k_is | kernel_rfl | rfl))
    refine' K20.def_use KX G (x := "hum_through") (st := K20.s_hum_through) ?a ?l ?c ?k fun D_hum_through => ?_
    (case a => (first | k_is | kernel_rfl | rfl)); (case l => (first | k_is | kernel_rfl | rfl)); (case c => (first | k_is | kernel_rfl | rfl)); (case k => (first | k_is | kernel_rfl | rfl))
    refine' K20.def_use KX G (x := "_law_passes") (st := K20.s_law_passes) ?a ?l ?c ?k fun D_law_passes => ?_
    (case a => (first | k_is | kernel_rfl | rfl)); (case l => (first | k_is | kernel_rfl | rfl)); (case c => (first | k_is | kernel_rfl | rfl)); (case k => (first | k_is | kernel_rfl | rfl))
    refine' K20.def_use KX G (x := "_law_size") (st := K20.s_law_size) ?a ?l ?c ?k fun D_law_size => ?_
    (case a => (first | k_is | kernel_rfl | rfl)); (case l => (first | k_is | kernel_rfl | rfl)); (case c => (first | k_is | kernel_rfl | rfl)); (case k => (first | k_is | kernel_rfl | rfl))
    refine' K20.def_use KX G (x := "_law_far") (st := K20.s_law_far) ?a ?l ?c ?k fun D_law_far => ?_
    (case a => (first | k_is | kernel_rfl | rfl)); (case l => (first | k_is | kernel_rfl | rfl)); (case c => (first | k_is | kernel_rfl | rfl)); (case k => (first | k_is | kernel_rfl | rfl))
    refine' K20.def_use KX G (x := "_law_clash") (st := K20.s_law_clash) ?a ?l ?c ?k fun D_law_clash => ?_
    (case a => (first | k_is | kernel_rfl | rfl)); (case l => (first | k_is | kernel_rfl | rfl)); (case c => (first | k_is | kernel_rfl | rfl)); (case k => (first | k_is | kernel_rfl | rfl))
    refine' K20.def_use KX G (x := "_law_keeping") (st := K20.s_law_keeping) ?a ?l ?c ?k fun D_law_keeping => ?_
    (case a => (first | k_is | kernel_rfl | rfl)); (case l => (first | k_is | kernel_rfl | rfl)); (case c => (first | k_is | kernel_rfl | rfl)); (case k => (first | k_is | kernel_rfl | rfl))
    refine' K20.def_use KX G (x := "_law_is_limits") (st := K20.s_law_is_limits) ?a ?l ?c ?k fun D_law_is_limits => ?_
    (case a => (first | k_is | kernel_rfl | rfl)); (case l => (first | k_is | kernel_rfl | rfl)); (case c => (first | k_is | kernel_rfl | rfl)); (case k => (first | k_is | kernel_rfl | rfl))
    refine' K20.def_use KX G (x := "_law_is_row") (st := K20.s_law_is_row) ?a ?l ?c ?k fun D_law_is_row => ?_
    (case a => (first | k_is | kernel_rfl | rfl)); (case l => (first | k_is | kernel_rfl | rfl)); (case c => (first | k_is | kernel_rfl | rfl)); (case k => (first | k_is | kernel_rfl | rfl))
    refine' K20.def_use KX G (x := "_law_due") (st := K20.s_law_due) ?a ?l ?c ?k fun D_law_due => ?_
    (case a => (first | k_is | kernel_rfl | rfl)); (case l => (first | k_is | kernel_rfl | rfl)); (case c => (first | k_is | kernel_rfl | rfl)); (case k => (first | k_is | kernel_rfl | rfl))
    refine' K20.def_use KX G (x := "_law_within") (st := K20.s_law_within) ?a ?l ?c ?k fun D_law_within => ?_
    (case a => (first | k_is | kernel_rfl | rfl)); (case l => (first | k_is | kernel_rfl | rfl)); (case c => (first | k_is | kernel_rfl | rfl)); (case k => (first | k_is | kernel_rfl | rfl))
    refine' K20.def_use KX G (x := "_law_keeps") (st := K20.s_law_keeps) ?a ?l ?c ?k fun D_law_keeps => ?_
    (case a => (first | k_is | kernel_rfl | rfl)); (case l => (first | k_is | kernel_rfl | rfl)); (case c => (first | k_is | kernel_rfl | rfl)); (case k => (first | k_is | kernel_rfl | rfl))
    refine' K20.def_use KX G (x := "_law_value") (st := K20.s_law_value) ?a ?l ?c ?k fun D_law_value => ?_
    (case a => (first | k_is | kernel_rfl | rfl)); (case l => (first | k_is | kernel_rfl | rfl)); (case c => (first | k_is | kernel_rfl | rfl)); (case k => (first | k_is | kernel_rfl | rfl))
    refine' K20.def_use KX G (x := "_law_bounded") (st := K20.s_law_bounded) ?a ?l ?c ?k fun D_law_bounded => ?_
    (case a => (first | k_is | kernel_rfl | rfl)); (case l => (first | k_is | kernel_rfl | rfl)); (case c => (first | k_is | kernel_rfl | rfl)); (case k => (first | k_is | kernel_rfl | rfl))
    refine' K20.def_use KX G (x := "_law_through_right") (st := K20.s_law_through_right) ?a ?l ?c ?k fun D_law_through_right => ?_
    (case a => (first | k_is | kernel_rfl | rfl)); (case l => (first | k_is | kernel_rfl | rfl)); (case c => (first | k_is | kernel_rfl | rfl)); (case k => (first | k_is | kernel_rfl | rfl))
    refine' K20.def_use KX G (x := "_law_refused") (st := K20.s_law_refused) ?a ?l ?c ?k fun D_law_refused => ?_
    (case a => (first | k_is | kernel_rfl | rfl)); (case l => (first | k_is | kernel_rfl | rfl)); (case c => (first | k_is | kernel_rfl | rfl)); (case k => (first | k_is | kernel_rfl | rfl))
    refine' K20.law_use KX G hmg ?a ?l ?c ?k fun base fd F => ?_
    (case a => k_is); (case l => k_is); (case c => k_is); (case k => k_is)
    exact K20.law_all (T := ⟨T.bi, T.zero, T.most, T.gLimits, T.gClash, T.oL, T.oC, T.nMosts, T.nSteps, T.nFirst, T.nSecond⟩) (B := B) (XF := XF) (CM := CM) (D_law_hand := D_law_hand) (D_law_mixed := D_law_mixed) (D_law_take := D_law_take) (D_law_many := D_law_many) (D_law_gcd := D_law_gcd) (D_law_ratio := D_law_ratio) (D_law_bound := D_law_bound) (D_law_bounds := D_law_bounds) (D_shared_divisor := D_shared_divisor) (D_is_ratio := D_is_ratio) (D_is_bound := D_is_bound) (D_law_made := D_law_made) (D_law_known_of := D_law_known_of) (D_law_plus := D_law_plus) (D_law_added := D_law_added) (D_law_below := D_law_below) (D_law_least := D_law_least) (D_law_reach := D_law_reach) (D_law_tight := D_law_tight) (D_law_minus_bound := D_law_minus_bound) (D_law_higher := D_law_higher) (D_law_less := D_law_less) (D_law_times := D_law_times) (D_law_share := D_law_share) (D_law_hum_within := D_law_hum_within) (D_law_known := D_law_known) (D_law_hum := D_law_hum) (D_law_drawn := D_law_drawn) (D_law_odd_ratio := D_law_odd_ratio) (D_law_spoilt := D_law_spoilt) (D_law_is_ratio := D_law_is_ratio) (D_law_word_due := D_law_word_due) (D_is_section := D_is_section) (D_check_known := D_check_known) (D_compare := D_compare) (D_lesser_bound := D_lesser_bound) (D_lowest := D_lowest) (D_plus := D_plus) (D_bounds_added := D_bounds_added) (D_led_along := D_led_along) (D_tighten := D_tighten) (D_passes_bound := D_passes_bound) (D_size_of := D_size_of) (D_distance_between := D_distance_between) (D_minus := D_minus) (D_clash_of := D_clash_of) (D_hum_through := D_hum_through) (D_law_passes := D_law_passes) (D_law_size := D_law_size) (D_law_far := D_law_far) (D_law_clash := D_law_clash) (D_law_keeping := D_law_keeping) (D_law_is_limits := D_law_is_limits) (D_law_is_row := D_law_is_row) (D_law_due := D_law_due) (D_law_within := D_law_within) (D_law_keeps := D_law_keeps) (D_law_value := D_law_value) (D_law_bounded := D_law_bounded) (D_law_through_right := D_law_through_right) (D_law_refused := D_law_refused) (D_is_whole := D_is_whole) (F_LI := F_LI) (M_L := M_L) (F_LL := F_LL) (L1 := A_LL) (L2 := I_LL) (F_CI := F_CI) (M_C := M_C) (F_CE := F_CE) (C1 := A_CE) (C2 := I_CE) (F := F)
