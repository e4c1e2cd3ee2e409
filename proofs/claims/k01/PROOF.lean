import PyProof.Rows.All
import Wide.All
import OpenK.AllK
import Wide.FinOn
import HandS.ForMost
import HandS.IsInst
import HandS.Deep
import HandS.WideBits
import HandS.EndBits
import HandS.Conv
import HandS.Flow
import HandS.TupSets
import HandS.SetKeys
import KE.SortData
import HandS.Style
import PyProof.Claim2Refuses
import HandS.TupLe
import HandS.Text
import PySem.Challenge.RW_twooffices_k01_holdings
section
set_option Elab.async false
set_option linter.all false
set_option autoImplicit false
set_option maxRecDepth 100000
/-! Core: data in three heaps, judgements of expressions and statements over data alone. -/
namespace T2
open PySem PySem.Spec L2
open PyProof.Rows hiding St

/-! ### heaps -/
/-- H: all that is tracked; G: what may be told of by names; F: what is new since the def's entry (and all tuples) -/
structure Hs where
  F : Hp
  G : Hp
  H : Hp
def Hs.lv (T : Hs) : Bool → Hp
  | true => T.F
  | false => T.G
structure Hs.Ok (T : Hs) : Prop where
  fg : Same T.F T.G
  gh : Same T.G T.H
  tp : ∀ a xs, T.H a = some (.tup xs) → T.F a = some (.tup xs)
  tz : ∀ a o xs, T.H a = some (.frz o (.tup xs)) → T.F a = some (.frz o (.tup xs))
  bd : ∀ a xs, Rd T.H a (.lst xs) → xs.length ≤ sizeLine
theorem Hs.Ok.lh {T : Hs} (o : T.Ok) : ∀ b, Same (T.lv b) T.H
  | true => o.fg.trans o.gh
  | false => o.gh
theorem Hs.Ok.fl {T : Hs} (o : T.Ok) : ∀ b, Same T.F (T.lv b)
  | true => .refl _
  | false => o.fg
theorem Hs.Ok.lg {T : Hs} (o : T.Ok) : ∀ b, Same (T.lv b) T.G
  | true => o.fg
  | false => .refl _
structure Stp (T T' : Hs) : Prop where
  ok : T'.Ok
  f : Same T.F T'.F
  g : Same T.G T'.G
  h : Same T.H T'.H
  nf : ∀ a, T.H a ≠ none → T'.F a = T.F a
  ng : ∀ a, T.H a ≠ none → T'.G a = T.G a
  fz : ∀ a o u, T'.H a = some (.frz o u) → T.H a ≠ none
theorem Stp.refl {T : Hs} (o : T.Ok) : Stp T T := ⟨o, .refl _, .refl _, .refl _, fun _ _ => rfl, fun _ _ => rfl, fun a ob u e => by rw [e]; simp⟩
theorem same_some {H H' : Hp} (s : Same H H') {a : Addr} (h : H a ≠ none) : H' a ≠ none := fun e => by
  cases q : H a with
  | none => exact h q
  | some o => rw [s a o q] at e; cases e
theorem Stp.trans {T T1 T2 : Hs} (a : Stp T T1) (b : Stp T1 T2) : Stp T T2 :=
  ⟨b.ok, a.f.trans b.f, a.g.trans b.g, a.h.trans b.h, fun x hx => (b.nf x (same_some a.h hx)).trans (a.nf x hx), fun x hx => (b.ng x (same_some a.h hx)).trans (a.ng x hx), fun x ob u e => by
    have h1 := b.fz x ob u e
    cases q : T1.H x with
    | none => exact absurd q h1
    | some w =>
      have := b.h x w q
      rw [e] at this
      cases this
      exact a.fz x ob u q⟩
theorem fz_upd {H : Hp} {p : Addr} {w : HO} (hw : ∀ o u, w ≠ .frz o u) : ∀ a o u, upd H p w a = some (.frz o u) → H a ≠ none := fun a o u e => by
  by_cases h : a = p
  · subst h; rw [upd_same] at e; exact absurd (Option.some.inj e) (hw o u)
  · rw [upd_ne h] at e; rw [e]; simp
theorem Stp.l {T T' : Hs} (s : Stp T T') : ∀ b, Same (T.lv b) (T'.lv b)
  | true => s.f
  | false => s.g

/-! ### data -/
theorem rd_mono {H H' : Hp} {a : Addr} {u : HO} (s : Same H H') (h : Rd H a u) : Rd H' a u := by
  rcases h with h | ⟨o, h⟩
  · exact .inl (s _ _ h)
  · exact .inr ⟨o, s _ _ h⟩
theorem sqt_mono {K : PySem.W.Frag} {H H' : Hp} {a : Addr} {xs : List V} (s : Same H H') (h : SqT K H a xs) : SqT K H' a xs := by
  rcases h with h | h
  · exact .inl (rd_mono s h)
  · exact .inr h
mutual
theorem dp_mono {K : PySem.W.Frag} {H H' : Hp} (s : Same H H') : ∀ (d : PyData) (v : V), Dp K H v d → Dp K H' v d
  | .none, _, h => by cases h; exact .non
  | .bool _, _, h => by cases h; exact .bl _
  | .int _, _, h => by cases h; exact .int _
  | .str _, _, h => by cases h; exact .str _
  | .list ds, _, h => by
    cases h with
    | lst hs ha => exact .lst (s.seq hs) (dpa_mono s ds _ ha)
  | .tuple ds, _, h => by
    cases h with
    | tup hs ha => exact .tup (sqt_mono s hs) (dpa_mono s ds _ ha)
  | .dict _, _, h => by cases h
theorem dpa_mono {K : PySem.W.Frag} {H H' : Hp} (s : Same H H') : ∀ (ds : List PyData) (vs : List V), DpAll K H vs ds → DpAll K H' vs ds
  | [], _, h => by cases h; exact .nil
  | d :: ds, _, h => by
    cases h with
    | cons h1 h2 => exact .cons (dp_mono s d _ h1) (dpa_mono s ds _ h2)
end
theorem up {K : PySem.W.Frag} {H H' : Hp} {v : V} {d : PyData} (h : Dp K H v d) (s : Same H H') : Dp K H' v d := dp_mono s d v h
theorem upA {K : PySem.W.Frag} {H H' : Hp} {vs : List V} {ds : List PyData} (h : DpAll K H vs ds) (s : Same H H') : DpAll K H' vs ds := dpa_mono s ds vs h
/-! nothing in it can be changed -/
mutual
def imm : PyData → Bool
  | .list _ => false
  | .dict _ => false
  | .tuple ds => immA ds
  | _ => true
def immA : List PyData → Bool
  | [] => true
  | d :: ds => imm d && immA ds
end
mutual
theorem dp_imm {K : PySem.W.Frag} {H H' : Hp} (s : ∀ a xs, H a = some (.tup xs) → H' a = some (.tup xs)) (s2 : ∀ a o xs, H a = some (.frz o (.tup xs)) → H' a = some (.frz o (.tup xs))) : ∀ (d : PyData) (v : V), imm d = true → Dp K H v d → Dp K H' v d
  | .none, _, _, h => by cases h; exact .non
  | .bool _, _, _, h => by cases h; exact .bl _
  | .int _, _, _, h => by cases h; exact .int _
  | .str _, _, _, h => by cases h; exact .str _
  | .list ds, _, i, h => by simp [imm] at i
  | .tuple ds, _, i, h => by
    cases h with
    | tup hs ha =>
      refine .tup ?_ (dpa_imm s s2 ds _ (by simpa [imm] using i) ha)
      rcases hs with (hs | ⟨o, hs⟩) | hs
      · exact .inl (.inl (s _ _ hs))
      · exact .inl (.inr ⟨o, s2 _ _ _ hs⟩)
      · exact .inr hs
  | .dict _, _, _, h => by cases h
theorem dpa_imm {K : PySem.W.Frag} {H H' : Hp} (s : ∀ a xs, H a = some (.tup xs) → H' a = some (.tup xs)) (s2 : ∀ a o xs, H a = some (.frz o (.tup xs)) → H' a = some (.frz o (.tup xs))) : ∀ (ds : List PyData) (vs : List V), immA ds = true → DpAll K H vs ds → DpAll K H' vs ds
  | [], _, _, h => by cases h; exact .nil
  | d :: ds, _, i, h => by
    rw [immA, Bool.and_eq_true] at i
    cases h with
    | cons h1 h2 => exact .cons (dp_imm s s2 d _ i.1 h1) (dpa_imm s s2 ds _ i.2 h2)
end
theorem imm_f {K : PySem.W.Frag} {T : Hs} {v : V} {d : PyData} (o : T.Ok) (h : Dp K T.H v d) (i : imm d = true) : ∀ b, Dp K (T.lv b) v d := fun b => up (dp_imm o.tp o.tz d v i h) (o.fl b)
theorem imm_l {K : PySem.W.Frag} {T : Hs} {v : V} {d : PyData} {b : Bool} (o : T.Ok) (h : Dp K (T.lv b) v d) (i : imm d = true) : ∀ c, Dp K (T.lv c) v d := imm_f o (up h (o.lh b)) i

/-! ### new objects -/
/-- a new tuple: in all three -/
def Hs.tup (T : Hs) (p : Addr) (xs : List V) : Hs := ⟨upd T.F p (.tup xs), upd T.G p (.tup xs), upd T.H p (.tup xs)⟩
/-- a new list at level b -/
def Hs.lst (T : Hs) (b : Bool) (p : Addr) (xs : List V) : Hs := ⟨cond b (upd T.F p (.lst xs)) T.F, upd T.G p (.lst xs), upd T.H p (.lst xs)⟩
/-- a new list that is in neither -/
def Hs.opn (T : Hs) (p : Addr) (xs : List V) : Hs := ⟨T.F, T.G, upd T.H p (.lst xs)⟩
theorem same_new {H : Hp} {p : Addr} {o : HO} (n : H p = none) : Same H (upd H p o) := fun b x e => by
  rw [upd_ne (ne_of_none e n)]; exact e
theorem same_upd2 {H H' : Hp} {p : Addr} {o : HO} (s : Same H H') : Same (upd H p o) (upd H' p o) := fun b x e => by
  by_cases hb : b = p
  · subst hb; rw [upd_same] at e ⊢; exact e
  · rw [upd_ne hb] at e ⊢; exact s b x e
theorem Hs.Ok.gn {T : Hs} (o : T.Ok) {p : Addr} (n : T.H p = none) : T.G p = none := o.gh.free n
theorem Hs.Ok.fn {T : Hs} (o : T.Ok) {p : Addr} (n : T.H p = none) : T.F p = none := o.fg.free (o.gn n)
theorem rd_upd {H : Hp} {p a : Addr} {o : HO} {ys : List V} (h1 : o ≠ .lst ys) (h2 : ∀ ob, o ≠ .frz ob (.lst ys)) (e : Rd (upd H p o) a (.lst ys)) : Rd H a (.lst ys) := by
  by_cases h : a = p
  · subst h
    rcases e with e | ⟨ob, e⟩
    · rw [upd_same] at e; exact absurd (Option.some.inj e) h1
    · rw [upd_same] at e; exact absurd (Option.some.inj e) (h2 ob)
  · rcases e with e | ⟨ob, e⟩
    · rw [upd_ne h] at e; exact .inl e
    · rw [upd_ne h] at e; exact .inr ⟨ob, e⟩
theorem bd_upd {H : Hp} {p : Addr} {xs : List V} (bd : ∀ a xs, Rd H a (.lst xs) → xs.length ≤ sizeLine) (hl : xs.length ≤ sizeLine) : ∀ a ys, Rd (upd H p (.lst xs)) a (.lst ys) → ys.length ≤ sizeLine := fun a ys e => by
  by_cases h : a = p
  · subst h
    rcases e with e | ⟨ob, e⟩
    · rw [upd_same] at e; cases e; exact hl
    · rw [upd_same] at e; cases e
  · rcases e with e | ⟨ob, e⟩
    · rw [upd_ne h] at e; exact bd a ys (.inl e)
    · rw [upd_ne h] at e; exact bd a ys (.inr ⟨ob, e⟩)
theorem stp_tup {T : Hs} (o : T.Ok) {p : Addr} {xs : List V} (n : T.H p = none) : Stp T (T.tup p xs) := by
  refine ⟨⟨same_upd2 o.fg, same_upd2 o.gh, fun a ys e => ?_, fun a ob ys e => ?_, fun a ys e => o.bd a ys (rd_upd (o := .tup xs) (fun z => nomatch z) (fun _ z => nomatch z) e)⟩, same_new (o.fn n), same_new (o.gn n), same_new n, fun a ha => upd_ne fun z => ha (z ▸ n), fun a ha => upd_ne fun z => ha (z ▸ n), fz_upd fun _ _ z => nomatch z⟩
  · by_cases h : a = p
    · subst h
      show upd T.F a (.tup xs) a = _
      have e' : upd T.H a (.tup xs) a = some (.tup ys) := e
      rw [upd_same] at e' ⊢; exact e'
    · have e' : upd T.H p (.tup xs) a = some (.tup ys) := e
      show upd T.F p (.tup xs) a = _
      rw [upd_ne h] at e' ⊢; exact o.tp a ys e'
  · by_cases h : a = p
    · subst h
      have e' : upd T.H a (.tup xs) a = some (.frz ob (.tup ys)) := e
      rw [upd_same] at e'; cases e'
    · have e' : upd T.H p (.tup xs) a = some (.frz ob (.tup ys)) := e
      show upd T.F p (.tup xs) a = _
      rw [upd_ne h] at e' ⊢; exact o.tz a ob ys e'
theorem hlst_tp {T : Hs} (o : T.Ok) {p : Addr} {u : HO} (hu : ∀ ys, u ≠ .tup ys) {a : Addr} {ys : List V} (e : upd T.H p u a = some (.tup ys)) : a ≠ p ∧ T.F a = some (.tup ys) := by
  by_cases h : a = p
  · subst h
    rw [upd_same] at e
    exact absurd (Option.some.inj e) (hu ys)
  · rw [upd_ne h] at e
    exact ⟨h, o.tp a ys e⟩
theorem hlst_tz {T : Hs} (o : T.Ok) {p : Addr} {u : HO} (hu : ∀ ob ys, u ≠ .frz ob (.tup ys)) {a : Addr} {ob : Obj} {ys : List V} (e : upd T.H p u a = some (.frz ob (.tup ys))) : a ≠ p ∧ T.F a = some (.frz ob (.tup ys)) := by
  by_cases h : a = p
  · subst h
    rw [upd_same] at e
    exact absurd (Option.some.inj e) (hu ob ys)
  · rw [upd_ne h] at e
    exact ⟨h, o.tz a ob ys e⟩
theorem stp_lst {T : Hs} (o : T.Ok) (b : Bool) {p : Addr} {xs : List V} (n : T.H p = none) (hl : xs.length ≤ sizeLine) : Stp T (T.lst b p xs) := by
  have fu : Same T.F (cond b (upd T.F p (.lst xs)) T.F) := by
    cases b
    · exact .refl _
    · exact same_new (o.fn n)
  have fk : ∀ a, a ≠ p → (cond b (upd T.F p (.lst xs)) T.F) a = T.F a := fun a h => by
    cases b
    · rfl
    · exact upd_ne h
  refine ⟨⟨?_, same_upd2 o.gh, fun a ys e => ?_, fun a ob ys e => ?_, bd_upd o.bd hl⟩, fu, same_new (o.gn n), same_new n, fun a ha => fk a fun z => ha (z ▸ n), fun a ha => upd_ne fun z => ha (z ▸ n), fz_upd fun _ _ z => nomatch z⟩
  · cases b
    · exact o.fg.trans (same_new (o.gn n))
    · exact same_upd2 o.fg
  · obtain ⟨h, q⟩ := hlst_tp o (u := .lst xs) (fun _ z => nomatch z) e
    exact (fk a h).trans q
  · obtain ⟨h, q⟩ := hlst_tz o (u := .lst xs) (fun _ _ z => nomatch z) e
    exact (fk a h).trans q
theorem stp_opn {T : Hs} (o : T.Ok) {p : Addr} {xs : List V} (n : T.H p = none) (hl : xs.length ≤ sizeLine) : Stp T (T.opn p xs) :=
  ⟨⟨o.fg, o.gh.trans (same_new n), fun a ys e => (hlst_tp o (u := .lst xs) (fun _ z => nomatch z) e).2, fun a ob ys e => (hlst_tz o (u := .lst xs) (fun _ _ z => nomatch z) e).2, bd_upd o.bd hl⟩, .refl _, .refl _, same_new n, fun _ _ => rfl, fun _ _ => rfl, fz_upd fun _ _ z => nomatch z⟩
theorem lst_at {T : Hs} (o : T.Ok) {b : Bool} {p : Addr} {xs : List V} : ((T.lst b p xs).lv b) p = some (.lst xs) := by
  cases b
  · exact upd_same
  · exact upd_same
theorem tup_at {T : Hs} {b : Bool} {p : Addr} {xs : List V} : ((T.tup p xs).lv b) p = some (.tup xs) := by
  cases b
  · exact upd_same
  · exact upd_same
theorem sql_len {K : PySem.W.Frag} {T : Hs} (o : T.Ok) {b : Bool} {a : Addr} {xs : List V} (h : SqL K (T.lv b) a xs) : xs.length ≤ sizeLine := by
  rcases h with h | ⟨ob, its, n, _, _, _, _, hz, r⟩
  · exact o.bd a xs (rd_mono (o.lh b) h)
  · have e := r.length
    simp only [Array.length_toList] at e
    omega
theorem dpa_len {K : PySem.W.Frag} {H : Hp} : ∀ {vs : List V} {ds : List PyData}, DpAll K H vs ds → vs.length = ds.length
  | _, [], h => by cases h; rfl
  | _, d :: ds, h => by
    cases h with
    | cons _ t => rw [List.length_cons, List.length_cons, dpa_len t]
theorem dpa_get {K : PySem.W.Frag} {H : Hp} : ∀ {vs : List V} {ds : List PyData} {i : Nat} {d : PyData}, DpAll K H vs ds → ds[i]? = some d → ∃ v, vs[i]? = some v ∧ Dp K H v d
  | _, [], i, d, h, e => by simp at e
  | _, d :: ds, 0, d', h, e => by
    cases h with
    | cons q t => simp at e; subst e; exact ⟨_, rfl, q⟩
  | _, d :: ds, i + 1, d', h, e => by
    cases h with
    | cons q t =>
      obtain ⟨v, h1, h2⟩ := dpa_get (i := i) t (by simpa using e)
      exact ⟨v, by simpa using h1, h2⟩
theorem dpa_get' {K : PySem.W.Frag} {H : Hp} : ∀ {vs : List V} {ds : List PyData} {i : Nat} {v : V}, DpAll K H vs ds → vs[i]? = some v → ∃ d, ds[i]? = some d ∧ Dp K H v d
  | _, [], i, d, h, e => by cases h; simp at e
  | _, d :: ds, 0, d', h, e => by
    cases h with
    | cons q t => simp at e; subst e; exact ⟨_, rfl, q⟩
  | _, d :: ds, i + 1, d', h, e => by
    cases h with
    | cons q t =>
      obtain ⟨v, h1, h2⟩ := dpa_get' (i := i) t (by simpa using e)
      exact ⟨v, by simpa using h1, h2⟩
theorem dpa_app {K : PySem.W.Frag} {H : Hp} {ws : List V} {es : List PyData} : ∀ {vs : List V} {ds : List PyData}, DpAll K H vs ds → DpAll K H ws es → DpAll K H (vs ++ ws) (ds ++ es)
  | _, [], h, q => by cases h; exact q
  | _, d :: ds, h, q => by
    cases h with
    | cons a t => exact .cons a (dpa_app t q)
end T2
end
section
set_option Elab.async false
set_option linter.all false
set_option autoImplicit false
set_option maxRecDepth 100000
namespace T2
open PySem PySem.Spec L2
open PyProof.Rows hiding St

/-! ### what names hold -/
/-- things of one's own -/
inductive Wk where
  /-- a tree of new lists -/
  | tree (d : PyData)
  /-- a list of at most n items -/
  | ul (n : Nat)
def Wk.P (K : PySem.W.Frag) : Wk → V → Hp → Prop
  | .tree d, v, R => Dp K R v d
  | .ul n, v, R => ∃ l vs, v = .ref l ∧ R l = some (.lst vs) ∧ vs.length ≤ n
def isTupO : HO → Bool
  | .tup _ => true
  | .frz _ (.tup _) => true
  | _ => false
/-- R is of one's own, but for tuples -/
structure Own (T0 T : Hs) (R : Hp) : Prop where
  h : Same R T.H
  n : ∀ a o, R a = some o → isTupO o = false → T0.H a = none ∧ T.G a = none
inductive En where
  /-- nothing is known -/
  | no
  /-- a datum, at a level -/
  | d (b : Bool) (x : PyData)
  /-- a list of one's own, its items data at a level -/
  | o (b : Bool) (xs : List PyData)
  /-- of one's own, whole -/
  | w (k : Wk)

def EnOk (K : PySem.W.Frag) (T0 T : Hs) (u : Option (Option V)) : En → Prop
  | .no => True
  | .d b x => ∃ v, u = some (some v) ∧ Dp K (T.lv b) v x
  | .o b xs => ∃ l vs, u = some (some (.ref l)) ∧ T0.H l = none ∧ T.G l = none ∧ T.H l = some (.lst vs) ∧ DpAll K (T.lv b) vs xs
  | .w _ => True
structure WOk (K : PySem.W.Frag) (T0 T : Hs) (σ : St) (Γ : List En) (Rs : Nat → Hp) : Prop where
  w : ∀ (i : Nat) (k : Wk), Γ[i]? = some (.w k) → (∃ v, σ[i]? = some (some v) ∧ k.P K v (Rs i)) ∧ Own T0 T (Rs i)
  ww : ∀ (i j : Nat) (k k' : Wk), i ≠ j → Γ[i]? = some (.w k) → Γ[j]? = some (.w k') → ∀ a o, Rs i a = some o → isTupO o = false → Rs j a = none
  wo : ∀ (i j : Nat) (k : Wk) (b : Bool) (xs : List PyData) (l : Addr), Γ[i]? = some (.w k) → Γ[j]? = some (.o b xs) → σ[j]? = some (some (.ref l)) → Rs i l = none

structure EnvOk (K : PySem.W.Frag) (T0 T : Hs) (σ : St) (Γ : List En) : Prop where
  st : Stp T0 T
  len : σ.length = Γ.length
  has : ∀ (i : Nat) (e : En), Γ[i]? = some e → EnOk K T0 T σ[i]? e
  ne : ∀ (i j : Nat) (b : Bool) (xs : List PyData) (c : Bool) (ys : List PyData), i ≠ j → Γ[i]? = some (.o b xs) → Γ[j]? = some (.o c ys) → σ[i]? ≠ σ[j]?
  rg : ∃ Rs, WOk K T0 T σ Γ Rs

section
variable {K : PySem.W.Frag} {T0 T T' : Hs} {σ : St} {Γ : List En}
theorem EnOk.stp {u : Option (Option V)} {e : En} (h : EnOk K T0 T u e) (s : Stp T T') : EnOk K T0 T' u e := by
  cases e with
  | no => trivial
  | d b x => obtain ⟨v, e1, e2⟩ := h; exact ⟨v, e1, up e2 (s.l b)⟩
  | o b xs =>
    obtain ⟨l, vs, e1, e2, e3, e4, e5⟩ := h
    exact ⟨l, vs, e1, e2, (s.ng l (by rw [e4]; simp)).trans e3, s.h _ _ e4, upA e5 (s.l b)⟩
  | w k => trivial
theorem Own.stp {R : Hp} (h : Own T0 T R) (s : Stp T T') : Own T0 T' R := ⟨h.h.trans s.h, fun a o e t => ⟨(h.n a o e t).1, (s.ng a (by rw [h.h a o e]; simp)).trans (h.n a o e t).2⟩⟩
theorem WOk.stp {Rs : Nat → Hp} (h : WOk K T0 T σ Γ Rs) (s : Stp T T') : WOk K T0 T' σ Γ Rs := ⟨fun i k q => ⟨(h.w i k q).1, (h.w i k q).2.stp s⟩, h.ww, h.wo⟩
theorem EnvOk.stp (h : EnvOk K T0 T σ Γ) (s : Stp T T') : EnvOk K T0 T' σ Γ := ⟨h.st.trans s, h.len, fun i e q => (h.has i e q).stp s, h.ne, h.rg.imp fun _ w => w.stp s⟩
theorem EnvOk.ok (h : EnvOk K T0 T σ Γ) : T.Ok := h.st.ok
/-- a list that no name of Γ holds (or the one at slot k alone) is changed -/
theorem EnvOk.hid {l : Addr} {ys : List V} {us : List V} (h : EnvOk K T0 T σ Γ) (h0 : T0.H l = none) (hg : T.G l = none) (hl : T.H l = some (.lst us)) (hz : ys.length ≤ sizeLine) (hn : ∀ (i : Nat) (b : Bool) (xs : List PyData), Γ[i]? = some (.o b xs) → σ[i]? ≠ some (some (.ref l)))
    (hw : ∃ Rs, WOk K T0 T σ Γ Rs ∧ ∀ i k, Γ[i]? = some (.w k) → Rs i l = none) : EnvOk K T0 ⟨T.F, T.G, upd T.H l (.lst ys)⟩ σ Γ := by
  have o := h.st.ok
  have ok : Hs.Ok ⟨T.F, T.G, upd T.H l (.lst ys)⟩ := by
    refine ⟨o.fg, fun a x e => ?_, fun a xs e => (hlst_tp o (u := .lst ys) (fun _ z => nomatch z) e).2, fun a ob xs e => (hlst_tz o (u := .lst ys) (fun _ _ z => nomatch z) e).2, bd_upd o.bd hz⟩
    have e' : T.G a = some x := e
    show upd T.H l (.lst ys) a = some x
    rw [upd_ne (ne_of_none e' hg)]
    exact o.gh a x e'
  have wk : ∃ Rs, WOk K T0 ⟨T.F, T.G, upd T.H l (.lst ys)⟩ σ Γ Rs := by
    obtain ⟨Rs, w, wn⟩ := hw
    refine ⟨Rs, fun i k q => ⟨(w.w i k q).1, fun a x e => ?_, (w.w i k q).2.n⟩, w.ww, w.wo⟩
    show upd T.H l (.lst ys) a = some x
    rw [upd_ne (ne_of_none e (wn i k q))]
    exact (w.w i k q).2.h a x e
  refine ⟨⟨ok, h.st.f, h.st.g, fun a x e => ?_, h.st.nf, h.st.ng, fun a ob u e => ?_⟩, h.len, fun i e q => ?_, h.ne, wk⟩
  · show upd T.H l (.lst ys) a = some x
    rw [upd_ne (ne_of_none e h0)]
    exact h.st.h a x e
  · have e' : upd T.H l (.lst ys) a = some (.frz ob u) := e
    by_cases hl' : a = l
    · subst hl'; rw [upd_same] at e'; cases e'
    · rw [upd_ne hl'] at e'; exact h.st.fz a ob u e'
  · have q' := h.has i e q
    cases e with
    | no => trivial
    | d b x => obtain ⟨v, e1, e2⟩ := q'; exact ⟨v, e1, by cases b <;> exact e2⟩
    | o b xs =>
      obtain ⟨m, vs, e1, e2, e3, e4, e5⟩ := q'
      have nm : m ≠ l := fun z => hn i b xs q (by rw [e1, z])
      refine ⟨m, vs, e1, e2, e3, ?_, by cases b <;> exact e5⟩
      show upd T.H l (.lst ys) m = _
      rw [upd_ne nm]; exact e4
    | w k => trivial
theorem set_w {i m : Nat} {e : En} {k : Wk} (he : ∀ k, e ≠ .w k) (q : (Γ.set i e)[m]? = some (.w k)) : m ≠ i ∧ Γ[m]? = some (.w k) := by
  by_cases hm : i = m
  · subst hm
    rw [List.getElem?_set] at q
    split at q
    · split at q
      · exact absurd (Option.some.inj q) (he k)
      · cases q
    · exact absurd rfl ‹_›
  · rw [List.getElem?_set_ne hm] at q
    exact ⟨fun z => hm z.symm, q⟩
theorem set_o {i m : Nat} {e : En} {c : Bool} {zs : List PyData} (he : ∀ c zs, e ≠ .o c zs) (q : (Γ.set i e)[m]? = some (.o c zs)) : m ≠ i ∧ Γ[m]? = some (.o c zs) := by
  by_cases hm : i = m
  · subst hm
    rw [List.getElem?_set] at q
    split at q
    · split at q
      · exact absurd (Option.some.inj q) (he c zs)
      · cases q
    · exact absurd rfl ‹_›
  · rw [List.getElem?_set_ne hm] at q
    exact ⟨fun z => hm z.symm, q⟩
theorem WOk.set {Rs : Nat → Hp} {i : Nat} {u : Option V} {e : En} (w : WOk K T0 T σ Γ Rs) (he : ∀ k, e ≠ .w k) (ho : ∀ c zs, e ≠ .o c zs) : WOk K T0 T (σ.set i u) (Γ.set i e) Rs := by
  refine ⟨fun j k q => ?_, fun j k a b hjk q q' => ?_, fun j m k b xs l q q' z => ?_⟩
  · obtain ⟨n1, q1⟩ := set_w he q
    rw [List.getElem?_set_ne (Ne.symm n1)]
    exact w.w j k q1
  · exact w.ww j k a b hjk (set_w he q).2 (set_w he q').2
  · obtain ⟨n1, q1⟩ := set_o ho q'
    rw [List.getElem?_set_ne (Ne.symm n1)] at z
    exact w.wo j m k b xs l (set_w he q).2 q1 z
theorem WOk.setO {Rs : Nat → Hp} {i : Nat} {l : Addr} {b : Bool} {xs : List PyData} (w : WOk K T0 T σ Γ Rs) (hi : ∀ j k, Γ[j]? = some (.w k) → Rs j l = none) : WOk K T0 T (σ.set i (some (.ref l))) (Γ.set i (.o b xs)) Rs := by
  refine ⟨fun j k q => ?_, fun j k a a' hjk q q' => ?_, fun j m k c ys l' q q' z => ?_⟩
  · obtain ⟨n1, q1⟩ := set_w (e := .o b xs) (fun _ z => by cases z) q
    rw [List.getElem?_set_ne (Ne.symm n1)]
    exact w.w j k q1
  · exact w.ww j k a a' hjk (set_w (e := .o b xs) (fun _ z => by cases z) q).2 (set_w (e := .o b xs) (fun _ z => by cases z) q').2
  · obtain ⟨n1, q1⟩ := set_w (e := .o b xs) (fun _ z => by cases z) q
    by_cases hm : m = i
    · subst hm
      have : l' = l := by
        rw [List.getElem?_set] at z
        split at z
        · split at z
          · exact (by simpa using z : l = l').symm
          · cases z
        · exact absurd rfl ‹_›
      subst this
      exact hi j k q1
    · rw [List.getElem?_set_ne (Ne.symm hm)] at z q'
      exact w.wo j m k c ys l' q1 q' z
/-- a name is stored: a datum -/
theorem EnvOk.set {v : V} {b : Bool} {x : PyData} (h : EnvOk K T0 T σ Γ) (i : Nat) (hv : Dp K (T.lv b) v x) : EnvOk K T0 T (σ.set i (some v)) (Γ.set i (.d b x)) := by
  refine ⟨h.st, by rw [List.length_set, List.length_set]; exact h.len, fun j e q => ?_, fun j k c xs c' ys hjk q q' => ?_, h.rg.imp fun _ w => w.set (fun _ z => by cases z) fun _ _ z => by cases z⟩
  · by_cases hj : i = j
    · subst hj
      rw [List.getElem?_set] at q
      split at q
      · split at q
        · cases q
          refine ⟨v, ?_, hv⟩
          rw [List.getElem?_set, if_pos rfl, if_pos (by rw [h.len]; assumption)]
        · cases q
      · exact absurd rfl ‹_›
    · rw [List.getElem?_set_ne hj] at q
      rw [List.getElem?_set_ne hj]
      exact h.has j e q
  · have one : ∀ (m : Nat) (c : Bool) (zs : List PyData), (Γ.set i (En.d b x))[m]? = some (.o c zs) → m ≠ i ∧ Γ[m]? = some (.o c zs) := fun m c zs q => by
      by_cases hm : i = m
      · subst hm
        rw [List.getElem?_set] at q
        split at q
        · split at q <;> cases q
        · exact absurd rfl ‹_›
      · rw [List.getElem?_set_ne hm] at q
        exact ⟨fun z => hm z.symm, q⟩
    obtain ⟨n1, q1⟩ := one _ _ _ q
    obtain ⟨n2, q2⟩ := one _ _ _ q'
    rw [List.getElem?_set_ne (Ne.symm n1), List.getElem?_set_ne (Ne.symm n2)]
    exact h.ne _ _ _ _ _ _ hjk q1 q2
/-- .. a new list of one's own -/
theorem EnvOk.setO {l : Addr} {b : Bool} {vs : List V} {xs : List PyData} (h : EnvOk K T0 T σ Γ) (i : Nat) (h0 : T0.H l = none) (hg : T.G l = none) (hl : T.H l = some (.lst vs)) (hv : DpAll K (T.lv b) vs xs)
    (hn : ∀ (i : Nat) (b : Bool) (xs : List PyData), Γ[i]? = some (.o b xs) → σ[i]? ≠ some (some (.ref l))) (hw : ∃ Rs, WOk K T0 T σ Γ Rs ∧ ∀ i k, Γ[i]? = some (.w k) → Rs i l = none) : EnvOk K T0 T (σ.set i (some (.ref l))) (Γ.set i (.o b xs)) := by
  refine ⟨h.st, by rw [List.length_set, List.length_set]; exact h.len, fun j e q => ?_, fun j k c ys c' zs hjk q q' => ?_, hw.imp fun _ w => w.1.setO w.2⟩
  · by_cases hj : i = j
    · subst hj
      rw [List.getElem?_set] at q
      split at q
      · split at q
        · cases q
          refine ⟨l, vs, ?_, h0, hg, hl, hv⟩
          rw [List.getElem?_set, if_pos rfl, if_pos (by rw [h.len]; assumption)]
        · cases q
      · exact absurd rfl ‹_›
    · rw [List.getElem?_set_ne hj] at q
      rw [List.getElem?_set_ne hj]
      exact h.has j e q
  · have one : ∀ (m : Nat) (c : Bool) (zs : List PyData), (Γ.set i (En.o b xs))[m]? = some (.o c zs) → m ≠ i → Γ[m]? = some (.o c zs) := fun m c zs q hm => by
      rw [List.getElem?_set_ne (Ne.symm hm)] at q
      exact q
    have self : ∀ (m : Nat) (c : Bool) (zs : List PyData), (Γ.set i (En.o b xs))[m]? = some (.o c zs) → m = i → (σ.set i (some (V.ref l)))[m]? = some (some (.ref l)) := fun m c zs q hm => by
      subst hm
      rw [List.getElem?_set] at q
      split at q
      · split at q
        · rw [List.getElem?_set, if_pos rfl, if_pos (by rw [h.len]; assumption)]
        · cases q
      · exact absurd rfl ‹_›
    by_cases hj : j = i
    · have hk : k ≠ i := fun z => hjk (hj.trans z.symm)
      rw [self _ _ _ q hj, List.getElem?_set_ne (Ne.symm hk)]
      exact fun z => hn k _ _ (one _ _ _ q' hk) z.symm
    · by_cases hk : k = i
      · rw [self _ _ _ q' hk, List.getElem?_set_ne (Ne.symm hj)]
        exact fun z => hn j _ _ (one _ _ _ q hj) z
      · rw [List.getElem?_set_ne (Ne.symm hj), List.getElem?_set_ne (Ne.symm hk)]
        exact h.ne _ _ _ _ _ _ hjk (one _ _ _ q hj) (one _ _ _ q' hk)
/-- a name is forgotten -/
theorem EnvOk.drop {u : Option V} (h : EnvOk K T0 T σ Γ) (i : Nat) : EnvOk K T0 T (σ.set i u) (Γ.set i .no) := by
  refine ⟨h.st, by rw [List.length_set, List.length_set]; exact h.len, fun j e q => ?_, fun j k c xs c' ys hjk q q' => ?_, h.rg.imp fun _ w => w.set (fun _ z => by cases z) fun _ _ z => by cases z⟩
  · by_cases hj : i = j
    · subst hj
      rw [List.getElem?_set] at q
      split at q
      · split at q
        · cases q; trivial
        · cases q
      · exact absurd rfl ‹_›
    · rw [List.getElem?_set_ne hj] at q
      rw [List.getElem?_set_ne hj]
      exact h.has j e q
  · have one : ∀ (m : Nat) (c : Bool) (zs : List PyData), (Γ.set i En.no)[m]? = some (.o c zs) → m ≠ i ∧ Γ[m]? = some (.o c zs) := fun m c zs q => by
      by_cases hm : i = m
      · subst hm
        rw [List.getElem?_set] at q
        split at q
        · split at q <;> cases q
        · exact absurd rfl ‹_›
      · rw [List.getElem?_set_ne hm] at q
        exact ⟨fun z => hm z.symm, q⟩
    obtain ⟨n1, q1⟩ := one _ _ _ q
    obtain ⟨n2, q2⟩ := one _ _ _ q'
    rw [List.getElem?_set_ne (Ne.symm n1), List.getElem?_set_ne (Ne.symm n2)]
    exact h.ne _ _ _ _ _ _ hjk q1 q2
/-- fewer is known -/
inductive EnLe : En → En → Prop
  | rfl {e : En} : EnLe e e
  | no {e : En} : EnLe e .no
inductive EnvLe : List En → List En → Prop
  | nil : EnvLe [] []
  | cons {e e' : En} {r r' : List En} : EnLe e e' → EnvLe r r' → EnvLe (e :: r) (e' :: r')
theorem EnvLe.refl : ∀ Γ : List En, EnvLe Γ Γ
  | [] => .nil
  | _ :: r => .cons .rfl (EnvLe.refl r)
theorem EnvLe.trans : ∀ {Γ Γ1 Γ2 : List En}, EnvLe Γ Γ1 → EnvLe Γ1 Γ2 → EnvLe Γ Γ2
  | _, _, _, .nil, .nil => .nil
  | _, _, _, .cons a t, .cons b u => .cons (by cases b with | rfl => exact a | no => exact .no) (EnvLe.trans t u)
theorem EnvLe.length : ∀ {Γ Γ' : List En}, EnvLe Γ Γ' → Γ.length = Γ'.length
  | _, _, .nil => rfl
  | _, _, .cons _ t => by rw [List.length_cons, List.length_cons, t.length]
theorem EnvLe.get : ∀ {Γ Γ' : List En}, EnvLe Γ Γ' → ∀ (i : Nat) (e : En), Γ'[i]? = some e → e = .no ∨ Γ[i]? = some e
  | _, _, .cons q t, 0, e, h => by
    simp only [List.getElem?_cons_zero, Option.some.injEq] at h
    subst h
    cases q with
    | rfl => exact .inr rfl
    | no => exact .inl rfl
  | _, _, .cons q t, i + 1, e, h => by
    simp only [List.getElem?_cons_succ] at h ⊢
    exact t.get i e h
theorem EnvOk.weak {Γ' : List En} (h : EnvOk K T0 T σ Γ) (l : EnvLe Γ Γ') : EnvOk K T0 T σ Γ' := by
  have lw : ∀ {i : Nat} {k : Wk}, Γ'[i]? = some (En.w k) → Γ[i]? = some (En.w k) := fun {i k} q => (l.get i _ q).resolve_left fun z => by cases z
  refine ⟨h.st, h.len.trans l.length, fun i e q => ?_, fun i j b xs c ys hij q q' => ?_, h.rg.imp fun _ w => ⟨fun i k q => w.w i k (lw q), fun i j k k' n q q' => w.ww i j k k' n (lw q) (lw q'), fun i j k b xs l' q q' z => w.wo i j k b xs l' (lw q) ((l.get j _ q').resolve_left fun z => by cases z) z⟩⟩
  · rcases l.get i e q with z | z
    · subst z; trivial
    · exact h.has i e z
  · rcases l.get i _ q with z | z
    · cases z
    · rcases l.get j _ q' with z' | z'
      · cases z'
      · exact h.ne i j _ _ _ _ hij z z'
end
end T2
end
section
set_option Elab.async false
set_option linter.all false
set_option autoImplicit false
set_option maxRecDepth 100000
namespace T2
open PySem PySem.Spec L2
open PyProof.Rows hiding St

/-- a family of contexts: a def's body, or a comprehension's block in all its states -/
structure Fm where
  I : Type
  X : I → Cx
  P : Program
  w : World
  K : PySem.W.Frag
  mg : Str → Option Value
  base : Heap
  N : List Str
  k : Nat
  hP : ∀ p, (X p).prog = P
  hw : ∀ p, (X p).w = w
  hK : ∀ p, (X p).K = K
  hm : ∀ p, (X p).mg = mg
  hb : ∀ p, (X p).base = base
  hN : ∀ p, (X p).N = N
  nd : N.Nodup
  hc : ∀ p, (X p).calm = true
  hx : ∀ p, (X p).xe = fun _ _ => False
  hr : ∀ p, Room k (X p).A
/-- a comprehension's block -/
def Fm.blk (F : Fm) (sc : Scope) : Fm where
  I := F.I × Shared × Hp × Addr × List (Str × Addr) × List Addr
  X := fun q => (F.X q.1).blk q.2.1 q.2.2.1 sc (compEnvC sc q.2.2.2.2.1 q.2.2.2.1 (F.X q.1).env) q.2.2.2.2.2
  P := F.P
  w := F.w
  K := F.K
  mg := F.mg
  base := F.base
  N := F.N
  k := F.k
  hP := fun q => F.hP q.1
  hw := fun q => F.hw q.1
  hK := fun q => F.hK q.1
  hm := fun q => F.hm q.1
  hb := fun q => F.hb q.1
  hN := fun q => F.hN q.1
  nd := F.nd
  hc := fun q => F.hc q.1
  hx := fun _ => rfl
  hr := fun q => F.hr q.1

section
variable (F : Fm)
def wpE (e : Expr) : TE := fun σ H Q => ∀ p pins s, Inv (F.X p) pins σ H s → wpAny (model (F.X p).prog (F.X p).w) (F.X p).A (eval e (F.X p).env) (EP (F.X p) pins σ Q) (F.X p).xe s
def wpT (e : Expr) : TT := fun σ H Q => ∀ p pins s, Inv (F.X p) pins σ H s → wpAny (model (F.X p).prog (F.X p).w) (F.X p).A (isTrue e (F.X p).env (eval e (F.X p).env)) (TP (F.X p) pins σ Q) (F.X p).xe s
def wpA (es : List Expr) : TA := fun σ H Q => ∀ p pos pins s, Inv (F.X p) pins σ H s → wpAny (model (F.X p).prog (F.X p).w) (F.X p).A (spliced (backTo pos (starEach es (F.X p).env))) (AP (F.X p) pins σ Q) (F.X p).xe s
def wpS (st : Stmt) : TS := fun D σ H => ∀ p pins s, Inv (F.X p) pins σ H s → wpAny (model (F.X p).prog (F.X p).w) (F.X p).A (exec st (F.X p).env) (SP (F.X p) pins D) (F.X p).xe s
def wpB (sts : List Stmt) : TS := fun D σ H => ∀ p pins s, Inv (F.X p) pins σ H s → wpAny (model (F.X p).prog (F.X p).w) (F.X p).A (execs sts (F.X p).env) (SP (F.X p) pins D) (F.X p).xe s
def wpG (tg : Expr) : TG := fun v σ H Q => ∀ p pins s u, Inv (F.X p) pins σ H s → RelV v u → wpAny (model (F.X p).prog (F.X p).w) (F.X p).A (assign tg (F.X p).env u) (fun _ s' => ∃ σ' H', Inv (F.X p) pins σ' H' s' ∧ Q σ' H') (F.X p).xe s
def wpI (tg iter : Expr) : TI := fun σ H R => ∀ p pins s, Inv (F.X p) pins σ H s → wpAny (model (F.X p).prog (F.X p).w) (F.X p).A (eval iter (F.X p).env) (fun v s1 => wpAny (model (F.X p).prog (F.X p).w) (F.X p).A (pyIter v) (PIE (F.X p) pins σ tg R) (F.X p).xe s1) (F.X p).xe s
def wpF (ifs : List Expr) : TT := fun σ H Q => ∀ p pins s, Inv (F.X p) pins σ H s → wpAny (model (F.X p).prog (F.X p).w) (F.X p).A (forIn ifs true fun c r => if r = true then do let ok ← isTrue c (F.X p).env (eval c (F.X p).env); pure (ForInStep.yield ok) else pure (ForInStep.yield r)) (TP (F.X p) pins σ Q) (F.X p).xe s
end
section
variable {F : Fm}
theorem pe_wp {e : Expr} (p : F.I) : PE (F.X p) e (wpE F e) := ⟨fun pins s _ _ _ I h => h p pins s I⟩
theorem pt_wp {e : Expr} (p : F.I) : PT (F.X p) e (wpT F e) := ⟨fun pins s _ _ _ I h => h p pins s I⟩
theorem pa_wp {es : List Expr} (p : F.I) : PA (F.X p) es (wpA F es) := ⟨fun pos pins s _ _ _ I h => h p pos pins s I⟩
theorem ps_wp {st : Stmt} (p : F.I) : PS (F.X p) st (wpS F st) := ⟨fun pins s _ _ _ I h => h p pins s I⟩
theorem pss_wp {sts : List Stmt} (p : F.I) : PSs (F.X p) sts (wpB F sts) := ⟨fun pins s _ _ _ I h => h p pins s I⟩
theorem pg_wp {tg : Expr} (p : F.I) : PG (F.X p) tg (wpG F tg) := ⟨fun pins s _ _ _ u _ I r h => h p pins s u I r⟩
theorem pi_wp {tg iter : Expr} (p : F.I) : PI (F.X p) tg iter (wpI F tg iter) := ⟨fun pins s _ _ _ I h => h p pins s I⟩
theorem pts_wp {ifs : List Expr} (p : F.I) : PTs (F.X p) ifs (wpF F ifs) := ⟨fun pins s _ _ _ I h => h p pins s I⟩
variable {σ : St} {H : Hp}
theorem wpE_of {e : Expr} {Q : VK} (t : F.I → TE) (h : ∀ p, PE (F.X p) e (t p)) (q : ∀ p, t p σ H Q) : wpE F e σ H Q := fun p pins s I => (h p).run pins s σ H Q I (q p)
theorem wpT_of {e : Expr} {Q : Bool → Hp → Prop} (t : F.I → TT) (h : ∀ p, PT (F.X p) e (t p)) (q : ∀ p, t p σ H Q) : wpT F e σ H Q := fun p pins s I => (h p).run pins s σ H Q I (q p)
theorem wpA_of {es : List Expr} {Q : List V → Hp → Prop} (t : F.I → TA) (h : ∀ p, PA (F.X p) es (t p)) (q : ∀ p, t p σ H Q) : wpA F es σ H Q := fun p pos pins s I => (h p).run pos pins s σ H Q I (q p)
theorem wpS_of {st : Stmt} {D : Ends} (t : F.I → TS) (h : ∀ p, PS (F.X p) st (t p)) (q : ∀ p, t p D σ H) : wpS F st D σ H := fun p pins s I => (h p).run pins s σ H D I (q p)
theorem wpB_of {sts : List Stmt} {D : Ends} (t : F.I → TS) (h : ∀ p, PSs (F.X p) sts (t p)) (q : ∀ p, t p D σ H) : wpB F sts D σ H := fun p pins s I => (h p).run pins s σ H D I (q p)
theorem wpG_of {tg : Expr} {v : V} {Q : St → Hp → Prop} (t : F.I → TG) (h : ∀ p, PG (F.X p) tg (t p)) (q : ∀ p, t p v σ H Q) : wpG F tg v σ H Q := fun p pins s u I r => (h p).run pins s σ H v u Q I r (q p)
theorem wpI_of {tg iter : Expr} {R : It → Hp → Prop} (t : F.I → TI) (h : ∀ p, PI (F.X p) tg iter (t p)) (q : ∀ p, t p σ H R) : wpI F tg iter σ H R := fun p pins s I => (h p).run pins s σ H R I (q p)
theorem wpF_of {ifs : List Expr} {Q : Bool → Hp → Prop} (t : F.I → TT) (h : ∀ p, PTs (F.X p) ifs (t p)) (q : ∀ p, t p σ H Q) : wpF F ifs σ H Q := fun p pins s I => (h p).run pins s σ H Q I (q p)
end

/-! ### the judgements over data -/
section
variable (F : Fm)
/-- e gives the datum d, at level b -/
def EvP (e : Expr) (Γ : List En) (b : Bool) (d : PyData) : Prop :=
  ∀ (T0 T : Hs) (σ : St), EnvOk F.K T0 T σ Γ → ∀ Q : VK, (∀ v T', Stp T T' → Dp F.K (T'.lv b) v d → Q v T'.H) → wpE F e σ T.H Q
/-- e gives a new list of the data xs -/
def EvN (e : Expr) (Γ : List En) (b : Bool) (xs : List PyData) : Prop :=
  ∀ (T0 T : Hs) (σ : St), EnvOk F.K T0 T σ Γ → ∀ Q : VK, (∀ l vs T', Stp T T' → T.H l = none → T'.G l = none → T'.H l = some (.lst vs) → DpAll F.K (T'.lv b) vs xs → Q (.ref l) T'.H) → wpE F e σ T.H Q
def AtA (K : PySem.W.Frag) (T : Hs) : List V → List (Bool × PyData) → Prop
  | [], [] => True
  | v :: vs, a :: as => Dp K (T.lv a.1) v a.2 ∧ AtA K T vs as
  | _, _ => False
/-- arguments -/
def EvA (es : List Expr) (Γ : List En) (as : List (Bool × PyData)) : Prop :=
  ∀ (T0 T : Hs) (σ : St), EnvOk F.K T0 T σ Γ → ∀ Q : List V → Hp → Prop, (∀ vs T', Stp T T' → AtA F.K T' vs as → Q vs T'.H) → wpA F es σ T.H Q
/-- a test -/
def TsP (e : Expr) (Γ : List En) (c : Bool) : Prop :=
  ∀ (T0 T : Hs) (σ : St), EnvOk F.K T0 T σ Γ → ∀ Q : Bool → Hp → Prop, (∀ T', Stp T T' → Q c T'.H) → wpT F e σ T.H Q
def TsF (ifs : List Expr) (Γ : List En) (c : Bool) : Prop :=
  ∀ (T0 T : Hs) (σ : St), EnvOk F.K T0 T σ Γ → ∀ Q : Bool → Hp → Prop, (∀ T', Stp T T' → Q c T'.H) → wpF F ifs σ T.H Q
end
/-- how a block ends -/
inductive Out where
  | nx (Γ : List En)
  | rt (b : Bool) (d : PyData)
  | bk (Γ : List En)
  | ct (Γ : List En)
/-- what could be told of before can be told of behind -/
structure Mon (T T' : Hs) : Prop where
  f : Same T.F T'.F
  g : Same T.G T'.G
theorem Mon.refl (T : Hs) : Mon T T := ⟨.refl _, .refl _⟩
theorem Mon.trans {T T1 T2 : Hs} (a : Mon T T1) (b : Mon T1 T2) : Mon T T2 := ⟨a.f.trans b.f, a.g.trans b.g⟩
theorem Stp.mon {T T' : Hs} (s : Stp T T') : Mon T T' := ⟨s.f, s.g⟩
def OutOk (K : PySem.W.Frag) (T0 T : Hs) (D : Ends) : Out → Prop
  | .nx Γ => ∀ T' σ, EnvOk K T0 T' σ Γ → Mon T T' → D.nx σ T'.H
  | .rt b d => ∀ T' v, Stp T0 T' → Dp K (T'.lv b) v d → D.rt v T'.H
  | .bk Γ => ∀ T' σ, EnvOk K T0 T' σ Γ → Mon T T' → D.bk σ T'.H
  | .ct Γ => ∀ T' σ, EnvOk K T0 T' σ Γ → Mon T T' → D.ct σ T'.H
section
variable (F : Fm)
def ExS (st : Stmt) (Γ : List En) (o : Out) : Prop := ∀ (T0 T : Hs) (σ : St), EnvOk F.K T0 T σ Γ → ∀ D : Ends, OutOk F.K T0 T D o → wpS F st D σ T.H
def ExB (sts : List Stmt) (Γ : List En) (o : Out) : Prop := ∀ (T0 T : Hs) (σ : St), EnvOk F.K T0 T σ Γ → ∀ D : Ends, OutOk F.K T0 T D o → wpB F sts D σ T.H
/-- a target: the slots vs are stored -/
def TgP (tg : Expr) (Γ : List En) (b : Bool) (d : PyData) (vs : List Nat) (Γ' : List En) : Prop :=
  ∀ (T0 T : Hs) (σ : St) (v : V), EnvOk F.K T0 T σ Γ → Dp F.K (T.lv b) v d → ∀ Q : St → Hp → Prop, (∀ σ', EnvOk F.K T0 T σ' Γ' → (∀ ws, (∀ i ∈ vs, i ∈ ws) → wipe σ' ws = wipe σ ws) → Q σ' T.H) → wpG F tg v σ T.H Q
/-- J yields the data ds, from T on -/
structure Yds (K : PySem.W.Frag) (J : It) (T : Hs) (b : Bool) (ds : List PyData) : Prop where
  go : ∀ (T' : Hs) (i : Nat) (d : PyData), T'.Ok → Same T.F T'.F → Same T.G T'.G → ds[i]? = some d → J.go i T'.H ∧ ∀ x H', J.yld i T'.H x H' → ∃ T2, Stp T' T2 ∧ T2.H = H' ∧ Dp K (T2.lv b) x d
  stop : ∀ (T' : Hs) (i : Nat), T'.Ok → Same T.F T'.F → Same T.G T'.G → ds.length ≤ i → J.stop i T'.H
def ItP (tg iter : Expr) (Γ : List En) (b : Bool) (ds : List PyData) : Prop :=
  ∀ (T0 T : Hs) (σ : St), EnvOk F.K T0 T σ Γ → ∀ R : It → Hp → Prop, (∀ J T', Stp T T' → Yds F.K J T' b ds → ds.length ≤ sizeLine → R J T'.H) → wpI F tg iter σ T.H R
end
end T2
end
section
set_option Elab.async false
set_option linter.all false
set_option autoImplicit false
set_option maxRecDepth 100000
namespace T2
open PySem PySem.Spec L2
open PyProof.Rows hiding St

section
variable {F : Fm} {Γ : List En}

/-! ### names, constants -/
theorem ev_var {x : Str} {pos : Pos} {b : Bool} {d : PyData} (i : Nat) (hΓ : Γ[i]? = some (.d b d)) (hi : F.N[i]? = some x := by rfl)
    (hv : ∀ p, Vis (F.X p).env.scope x := by intro _; first | exact Or.inl rfl | exact Or.inr (Or.inl rfl) | exact Or.inr (Or.inr rfl))
    (hd : (x == ("__debug__" : Str)) = false := by decide) (hcd : (x == ("__classdict__" : Str)) = false := by decide) : EvP F (.Name x pos) Γ b d := by
  intro T0 T σ ok Q hQ
  obtain ⟨v, e1, e2⟩ := ok.has i _ hΓ
  exact wpE_of (fun _ => tVar i) (fun p => pe_var (by rw [F.hN p]; exact hi) (hv p) hd hcd) fun _ => ⟨v, e1, hQ v T (.refl ok.ok) e2⟩
theorem ev_int {i : Int} {j : Nat} {pos : Pos} {b : Bool} : EvP F (.Constant (.int i) j pos) Γ b (.int i) := fun T0 T σ ok Q hQ =>
  wpE_of (fun _ => tC (.int i)) (fun _ => pe_int) fun _ => hQ _ T (.refl ok.ok) (.int i)
theorem ev_str {x : Str} {j : Nat} {pos : Pos} {b : Bool} : EvP F (.Constant (.str x) j pos) Γ b (.str x) := fun T0 T σ ok Q hQ =>
  wpE_of (fun _ => tC (.str x)) (fun _ => pe_str) fun _ => hQ _ T (.refl ok.ok) (.str x)
theorem ev_bl {c : Bool} {j : Nat} {pos : Pos} {b : Bool} : EvP F (.Constant (.bool c) j pos) Γ b (.bool c) := fun T0 T σ ok Q hQ =>
  wpE_of (fun _ => tC (.bl c)) (fun _ => pe_bl) fun _ => hQ _ T (.refl ok.ok) (.bl c)
theorem ev_non {j : Nat} {pos : Pos} {b : Bool} : EvP F (.Constant .none j pos) Γ b .none := fun T0 T σ ok Q hQ =>
  wpE_of (fun _ => tC .non) (fun _ => pe_non) fun _ => hQ _ T (.refl ok.ok) .non
/-- a module's constant -/
theorem ev_gint {x : Str} {pos : Pos} {i : Int} {t : Tok} {b : Bool} (hm : F.mg x = some (.int i t)) (hg : ∀ p, Gl (F.X p) x := by intro _; rfl) (hd : (x == ("__debug__" : Str)) = false := by decide) : EvP F (.Name x pos) Γ b (.int i) := fun T0 T σ ok Q hQ =>
  wpE_of (fun _ => tC (.int i)) (fun p => pe_glob (hg p) (by rw [F.hm p]; exact hm) ⟨t, rfl⟩ hd) fun _ => hQ _ T (.refl ok.ok) (.int i)
theorem ev_gstr {x : Str} {pos : Pos} {i : Str} {t : Tok} {b : Bool} (hm : F.mg x = some (.str i t)) (hg : ∀ p, Gl (F.X p) x := by intro _; rfl) (hd : (x == ("__debug__" : Str)) = false := by decide) : EvP F (.Name x pos) Γ b (.str i) := fun T0 T σ ok Q hQ =>
  wpE_of (fun _ => tC (.str i)) (fun p => pe_glob (hg p) (by rw [F.hm p]; exact hm) ⟨t, rfl⟩ hd) fun _ => hQ _ T (.refl ok.ok) (.str i)
/-- what cannot be changed is at every level -/
theorem ev_imm {e : Expr} {b c : Bool} {d : PyData} (h : EvP F e Γ b d) (i : imm d = true := by rfl) : EvP F e Γ c d := fun T0 T σ ok Q hQ =>
  h T0 T σ ok Q fun v T' s q => hQ v T' s (imm_l s.ok q i c)
theorem ev_low {e : Expr} {b : Bool} {d : PyData} (h : EvP F e Γ b d) : EvP F e Γ false d := fun T0 T σ ok Q hQ =>
  h T0 T σ ok Q fun v T' s q => hQ v T' s (up q (s.ok.lg b))
theorem ev_eq {e : Expr} {b : Bool} {d d' : PyData} (h : EvP F e Γ b d) (q : d = d') : EvP F e Γ b d' := q ▸ h
/-- a new list is a datum -/
theorem ev_new {e : Expr} {b : Bool} {xs : List PyData} (h : EvN F e Γ b xs) : EvP F e Γ b (.list xs) := by
  intro T0 T σ ok Q hQ
  refine h T0 T σ ok Q fun l vs T' s n g q a => ?_
  have o := s.ok
  have fl : T'.F l = none := o.fg.free g
  have ok2 : Hs.Ok ⟨cond b (upd T'.F l (.lst vs)) T'.F, upd T'.G l (.lst vs), T'.H⟩ := by
    refine ⟨?_, fun x u e => ?_, fun x us e => ?_, fun x ob us e => ?_, o.bd⟩
    · cases b
      · exact o.fg.trans (same_new g)
      · exact same_upd2 o.fg
    · have e' : upd T'.G l (.lst vs) x = some u := e
      by_cases hx : x = l
      · subst hx; rw [upd_same] at e'; cases e'; exact q
      · rw [upd_ne hx] at e'; exact o.gh x u e'
    · have hx : x ≠ l := fun z => by
        have e' : T'.H x = some (.tup us) := e
        rw [z, q] at e'; cases e'
      have := o.tp x us e
      cases b
      · exact this
      · show upd T'.F l (.lst vs) x = _
        rw [upd_ne hx]; exact this
    · have hx : x ≠ l := fun z => by
        have e' : T'.H x = some (.frz ob (.tup us)) := e
        rw [z, q] at e'; cases e'
      have := o.tz x ob us e
      cases b
      · exact this
      · show upd T'.F l (.lst vs) x = _
        rw [upd_ne hx]; exact this
  have s2 : Stp T ⟨cond b (upd T'.F l (.lst vs)) T'.F, upd T'.G l (.lst vs), T'.H⟩ := by
    refine ⟨ok2, ?_, s.g.trans (same_new g), s.h, fun x hx => ?_, fun x hx => ?_, s.fz⟩
    · cases b
      · exact s.f
      · exact s.f.trans (same_new fl)
    · have hx' : x ≠ l := fun z => hx (z ▸ n)
      cases b
      · exact s.nf x hx
      · exact (upd_ne hx').trans (s.nf x hx)
    · have hx' : x ≠ l := fun z => hx (z ▸ n)
      exact (upd_ne hx').trans (s.ng x hx)
  refine hQ (.ref l) ⟨cond b (upd T'.F l (.lst vs)) T'.F, upd T'.G l (.lst vs), T'.H⟩ s2 ?_
  refine .lst (xs := vs) (.of ?_) (upA a ?_)
  · cases b <;> exact upd_same
  · cases b
    · exact same_new g
    · exact same_new fl

/-! ### arguments, displays -/
theorem ata_stp {K : PySem.W.Frag} {T T' : Hs} (s : Stp T T') : ∀ {vs : List V} {as : List (Bool × PyData)}, AtA K T vs as → AtA K T' vs as
  | [], [], h => h
  | _ :: _, a :: _, h => ⟨up h.1 (s.l a.1), ata_stp s h.2⟩
  | [], _ :: _, h => h
  | _ :: _, [], h => h
theorem ea_nil : EvA F [] Γ [] := fun T0 T σ ok Q hQ => wpA_of (fun _ => tNil) (fun _ => pa_nil) fun _ => hQ [] T (.refl ok.ok) trivial
theorem ea_cons {e : Expr} {es : List Expr} {b : Bool} {d : PyData} {as : List (Bool × PyData)} (h : EvP F e Γ b d) (t : EvA F es Γ as) (hs : ∀ p, starEach (e :: es) (F.X p).env = (false, eval e (F.X p).env) :: starEach es (F.X p).env := by intro _; rfl) :
    EvA F (e :: es) Γ ((b, d) :: as) := fun T0 T σ ok Q hQ =>
  wpA_of (fun _ => tCons (wpE F e) (wpA F es)) (fun p => pa_cons (pe_wp p) (pa_wp p) (hs p)) fun _ =>
    h T0 T σ ok _ fun v T1 s1 q1 => t T0 T1 σ (ok.stp s1) _ fun vs T2 s2 q2 => hQ (v :: vs) T2 (s1.trans s2) ⟨up q1 (s2.l b), q2⟩
theorem ata_len {K : PySem.W.Frag} {T : Hs} : ∀ {vs : List V} {as : List (Bool × PyData)}, AtA K T vs as → vs.length = as.length
  | [], [], _ => rfl
  | _ :: _, _ :: _, h => by rw [List.length_cons, List.length_cons, ata_len h.2]
  | [], _ :: _, h => h.elim
  | _ :: _, [], h => h.elim
/-- all at one level -/
def allB (b : Bool) (as : List (Bool × PyData)) : Prop := ∀ a ∈ as, a.1 = b
theorem ata_all {K : PySem.W.Frag} {T : Hs} {b : Bool} : ∀ {vs : List V} {as : List (Bool × PyData)}, AtA K T vs as → allB b as → DpAll K (T.lv b) vs (as.map (·.2))
  | [], [], _, _ => .nil
  | _ :: _, a :: _, h, q => by
    have e : a.1 = b := q a List.mem_cons_self
    exact .cons (e ▸ h.1) (ata_all h.2 fun x hx => q x (List.mem_cons_of_mem _ hx))
  | [], _ :: _, h, _ => h.elim
  | _ :: _, [], h, _ => h.elim
theorem ev_tup {es : List Expr} {k : Nat} {pos : Pos} {b : Bool} {as : List (Bool × PyData)} (h : EvA F es Γ as) (hb : allB b as := by simp [allB]) (hl : as.length ≤ sizeLine := by decide) : EvP F (.Tuple es k pos) Γ b (.tuple (as.map (·.2))) := fun T0 T σ ok Q hQ =>
  wpE_of (fun _ => tTup (wpA F es)) (fun p => pe_tup (pa_wp p)) fun _ => h T0 T σ ok _ fun vs T1 s1 q1 => by
    refine ⟨by rw [ata_len q1]; exact hl, fun p n => ?_⟩
    have s2 := stp_tup s1.ok (xs := vs) n
    exact hQ (.ref p) (T1.tup p vs) (s1.trans s2) (.tup (.of tup_at) (upA (ata_all q1 hb) (s2.l b)))
theorem en_lst {es : List Expr} {pos : Pos} {b : Bool} {as : List (Bool × PyData)} (h : EvA F es Γ as) (hb : allB b as := by simp [allB]) (hl : as.length ≤ sizeLine := by decide) : EvN F (.List es pos) Γ b (as.map (·.2)) := fun T0 T σ ok Q hQ =>
  wpE_of (fun _ => tLst (wpA F es)) (fun p => pe_lst (pa_wp p)) fun _ => h T0 T σ ok _ fun vs T1 s1 q1 => by
    have hz : vs.length ≤ sizeLine := by rw [ata_len q1]; exact hl
    refine ⟨hz, fun p n => ?_⟩
    have s2 := stp_opn s1.ok (xs := vs) n hz
    exact hQ p vs (T1.opn p vs) (s1.trans s2) (s1.h.free n) (s1.ok.gn n) upd_same (upA (ata_all q1 hb) (s2.l b))

/-! ### operators -/
theorem ev_op {op : Operator} {a b : Expr} {pos : Pos} {la lb lc : Bool} {da db dc : PyData} {r : F.I → R2} (ho : ∀ p, OpR (F.X p) (binaryOp op) (r p)) (ha : EvP F a Γ la da) (hb : EvP F b Γ lb db)
    (hr : ∀ p T x y Q, T.Ok → Dp F.K (T.lv la) x da → Dp F.K (T.lv lb) y db → (∀ v T', Stp T T' → Dp F.K (T'.lv lc) v dc → Q v T'.H) → r p x y T.H Q) : EvP F (.BinOp a op b pos) Γ lc dc := fun T0 T σ ok Q hQ =>
  wpE_of (fun p => tOp (r p) (wpE F a) (wpE F b)) (fun p => pe_op (ho p) (pe_wp p) (pe_wp p)) fun p => ha T0 T σ ok _ fun x T1 s1 q1 => hb T0 T1 σ (ok.stp s1) _ fun y T2 s2 q2 =>
    hr p T2 x y Q s2.ok (up q1 (s2.l la)) q2 fun v T' s' q' => hQ v T' (s1.trans (s2.trans s')) q'
theorem ev_cmp {op : CmpOp} {a b : Expr} {pos : Pos} {la lb : Bool} {da db : PyData} {c l : Bool} {r : F.I → R2} (ho : ∀ p, OpR (F.X p) (compareOp op) (r p)) (ha : EvP F a Γ la da) (hb : EvP F b Γ lb db) (hm : behindInMarks op b = false)
    (hr : ∀ p T x y Q, T.Ok → Dp F.K (T.lv la) x da → Dp F.K (T.lv lb) y db → (∀ T', Stp T T' → Q (.bl c) T'.H) → r p x y T.H Q) : EvP F (.Compare a [op] [b] pos) Γ l (.bool c) := fun T0 T σ ok Q hQ =>
  wpE_of (fun p => tOp (r p) (wpE F a) (wpE F b)) (fun p => pe_cmpR (ho p) (pe_wp p) (pe_wp p) hm) fun p => ha T0 T σ ok _ fun x T1 s1 q1 => hb T0 T1 σ (ok.stp s1) _ fun y T2 s2 q2 =>
    hr p T2 x y Q s2.ok (up q1 (s2.l la)) q2 fun T' s' => hQ _ T' (s1.trans (s2.trans s')) (.bl c)
/-- .. as a test -/
theorem ts_cmp {op : CmpOp} {a b : Expr} {pos : Pos} {la lb : Bool} {da db : PyData} {c : Bool} {r : F.I → R2} (ho : ∀ p, OpR (F.X p) (compareOp op) (r p)) (ha : EvP F a Γ la da) (hb : EvP F b Γ lb db) (hm : behindInMarks op b = false)
    (hr : ∀ p T x y Q, T.Ok → Dp F.K (T.lv la) x da → Dp F.K (T.lv lb) y db → (∀ T', Stp T T' → Q (.bl c) T'.H) → r p x y T.H Q) : TsP F (.Compare a [op] [b] pos) Γ c := fun T0 T σ ok Q hQ =>
  wpT_of (fun p => tTest (tOp (r p) (wpE F a) (wpE F b))) (fun p => pt_cmpR (ho p) (pe_wp p) (pe_wp p) hm) fun p => ha T0 T σ ok _ fun x T1 s1 q1 => hb T0 T1 σ (ok.stp s1) _ fun y T2 s2 q2 =>
    hr p T2 x y _ s2.ok (up q1 (s2.l la)) q2 fun T' s' => ⟨c, rfl, hQ T' (s1.trans (s2.trans s'))⟩

/-- a rule of ints -/
theorem ev_opI {op : Operator} {a b : Expr} {pos : Pos} {la lb lc : Bool} {i j : Int} {C : Int → Int → Prop} {g : Int → Int → Int} (ho : ∀ p, OpR (F.X p) (binaryOp op) (rI C fun i j => .int (g i j))) (ha : EvP F a Γ la (.int i)) (hb : EvP F b Γ lb (.int j)) (hc : C i j) : EvP F (.BinOp a op b pos) Γ lc (.int (g i j)) :=
  ev_op (r := fun _ => rI C fun i j => .int (g i j)) ho ha hb fun _ T x y Q o hx hy q => by
    cases hx; cases hy
    exact ⟨i, j, rfl, rfl, hc, q _ T (.refl o) (.int _)⟩
theorem ev_opJ {op : Operator} {a b : Expr} {pos : Pos} {la lb lc : Bool} {i j : Int} {g : Int → Int → Int} (ho : ∀ p, OpR (F.X p) (binaryOp op) (rI0 fun i j => .int (g i j))) (ha : EvP F a Γ la (.int i)) (hb : EvP F b Γ lb (.int j)) : EvP F (.BinOp a op b pos) Γ lc (.int (g i j)) :=
  ev_op (r := fun _ => rI0 fun i j => .int (g i j)) ho ha hb fun _ T x y Q o hx hy q => by
    cases hx; cases hy
    exact ⟨i, j, rfl, rfl, q _ T (.refl o) (.int _)⟩
end
end T2
end
section
set_option Elab.async false
set_option linter.all false
set_option autoImplicit false
set_option maxRecDepth 100000
namespace T2
open PySem PySem.Spec L2
open PyProof.Rows hiding St

section
variable {F : Fm} {Γ : List En}

/-! ### truths -/
theorem ev_one {op : BoolOp} {a : Expr} {pos : Pos} {b : Bool} {d : PyData} (h : EvP F a Γ b d) : EvP F (.BoolOp op [a] pos) Γ b d := fun T0 T σ ok Q hQ =>
  wpE_of (fun _ => wpE F a) (fun p => pe_one (pe_wp p)) fun _ => h T0 T σ ok Q hQ
theorem ev_and {a b : Expr} {rest : List Expr} {pos : Pos} {l l' m : Bool} {c c' : Bool} (h : EvP F a Γ l (.bool c)) (h2 : c = true → EvP F (.BoolOp .And (b :: rest) pos) Γ l' (.bool c')) : EvP F (.BoolOp .And (a :: b :: rest) pos) Γ m (.bool (c && c')) := fun T0 T σ ok Q hQ =>
  wpE_of (fun _ => tAndV (wpE F a) (wpE F (.BoolOp .And (b :: rest) pos))) (fun p => pe_and (pe_wp p) (pe_wp p)) fun _ => h T0 T σ ok _ fun v T1 s1 q1 => by
    cases q1
    refine ⟨c, rfl, ?_⟩
    cases c with
    | true =>
      rw [if_pos rfl]
      refine h2 rfl T0 T1 σ (ok.stp s1) Q fun v T2 s2 q2 => ?_
      cases q2
      exact hQ _ T2 (s1.trans s2) (.bl _)
    | false =>
      rw [if_neg Bool.false_ne_true]
      exact hQ _ T1 s1 (.bl false)
theorem ev_or {a b : Expr} {rest : List Expr} {pos : Pos} {l l' m : Bool} {c c' : Bool} (h : EvP F a Γ l (.bool c)) (h2 : c = false → EvP F (.BoolOp .Or (b :: rest) pos) Γ l' (.bool c')) : EvP F (.BoolOp .Or (a :: b :: rest) pos) Γ m (.bool (c || c')) := fun T0 T σ ok Q hQ =>
  wpE_of (fun _ => tOrV (wpE F a) (wpE F (.BoolOp .Or (b :: rest) pos))) (fun p => pe_or (pe_wp p) (pe_wp p)) fun _ => h T0 T σ ok _ fun v T1 s1 q1 => by
    cases q1
    refine ⟨c, rfl, ?_⟩
    cases c with
    | true =>
      rw [if_pos rfl]
      exact hQ _ T1 s1 (.bl true)
    | false =>
      rw [if_neg Bool.false_ne_true]
      refine h2 rfl T0 T1 σ (ok.stp s1) Q fun v T2 s2 q2 => ?_
      cases q2
      exact hQ _ T2 (s1.trans s2) (.bl _)
theorem ev_not {a : Expr} {pos : Pos} {l m : Bool} {c : Bool} (h : EvP F a Γ l (.bool c)) : EvP F (.UnaryOp .Not a pos) Γ m (.bool (!c)) := fun T0 T σ ok Q hQ =>
  wpE_of (fun _ => tNotV (wpE F a)) (fun p => pe_not (pe_wp p)) fun _ => h T0 T σ ok _ fun v T1 s1 q1 => by
    cases q1
    exact ⟨c, rfl, hQ _ T1 s1 (.bl _)⟩
theorem ev_ifx {c a b : Expr} {pos : Pos} {l : Bool} {k : Bool} {d : PyData} (h : TsP F c Γ k) (h1 : k = true → EvP F a Γ l d) (h2 : k = false → EvP F b Γ l d) : EvP F (.IfExp c a b pos) Γ l d := fun T0 T σ ok Q hQ =>
  wpE_of (fun _ => tIf (wpT F c) (wpE F a) (wpE F b)) (fun p => pe_ifExp (pt_wp p) (pe_wp p) (pe_wp p)) fun _ => h T0 T σ ok _ fun T1 s1 => by
    cases k with
    | true =>
      rw [if_pos rfl]
      exact h1 rfl T0 T1 σ (ok.stp s1) Q fun v T2 s2 q2 => hQ v T2 (s1.trans s2) q2
    | false =>
      rw [if_neg Bool.false_ne_true]
      exact h2 rfl T0 T1 σ (ok.stp s1) Q fun v T2 s2 q2 => hQ v T2 (s1.trans s2) q2

/-! ### tests -/
def wpW (F : Fm) (e : Expr) : TT := fun σ H Q => ∀ p whole pins s, Inv (F.X p) pins σ H s → wpAny (model (F.X p).prog (F.X p).w) (F.X p).A (isTrue e (F.X p).env whole) (TP (F.X p) pins σ Q) (F.X p).xe s
def TsW (F : Fm) (e : Expr) (Γ : List En) (c : Bool) : Prop :=
  ∀ (T0 T : Hs) (σ : St), EnvOk F.K T0 T σ Γ → ∀ Q : Bool → Hp → Prop, (∀ T', Stp T T' → Q c T'.H) → wpW F e σ T.H Q
theorem pw_wp {e : Expr} (p : F.I) : PW (F.X p) e (wpW F e) := ⟨fun wh pins s _ _ _ I h => h p wh pins s I⟩
theorem wpW_of {e : Expr} {σ : St} {H : Hp} {Q : Bool → Hp → Prop} (t : F.I → TT) (h : ∀ p, PW (F.X p) e (t p)) (q : ∀ p, t p σ H Q) : wpW F e σ H Q := fun p wh pins s I => (h p).run wh pins s σ H Q I (q p)
theorem ts_w {e : Expr} {c : Bool} (h : TsW F e Γ c) : TsP F e Γ c := fun T0 T σ ok Q hQ => wpT_of (fun _ => wpW F e) (fun p => (pw_wp p).pt) fun _ => h T0 T σ ok Q hQ
theorem tw_and1 {a : Expr} {pos : Pos} {c : Bool} (h : TsP F a Γ c) : TsW F (.BoolOp .And [a] pos) Γ c := fun T0 T σ ok Q hQ => wpW_of (fun _ => wpT F a) (fun p => pw_and1 (pt_wp p)) fun _ => h T0 T σ ok Q hQ
theorem tw_or1 {a : Expr} {pos : Pos} {c : Bool} (h : TsP F a Γ c) : TsW F (.BoolOp .Or [a] pos) Γ c := fun T0 T σ ok Q hQ => wpW_of (fun _ => wpT F a) (fun p => pw_or1 (pt_wp p)) fun _ => h T0 T σ ok Q hQ
theorem tw_and {a b : Expr} {rest : List Expr} {pos : Pos} {c c' : Bool} (h : TsP F a Γ c) (h2 : c = true → TsW F (.BoolOp .And (b :: rest) pos) Γ c') : TsW F (.BoolOp .And (a :: b :: rest) pos) Γ (c && c') := fun T0 T σ ok Q hQ =>
  wpW_of (fun _ => tAnd (wpT F a) (wpW F (.BoolOp .And (b :: rest) pos))) (fun p => pw_and (pt_wp p) (pw_wp p)) fun _ => h T0 T σ ok _ fun T1 s1 => by
    cases c with
    | true =>
      rw [if_pos rfl]
      exact h2 rfl T0 T1 σ (ok.stp s1) Q fun T2 s2 => hQ T2 (s1.trans s2)
    | false =>
      rw [if_neg Bool.false_ne_true]
      exact hQ T1 s1
theorem tw_or {a b : Expr} {rest : List Expr} {pos : Pos} {c c' : Bool} (h : TsP F a Γ c) (h2 : c = false → TsW F (.BoolOp .Or (b :: rest) pos) Γ c') : TsW F (.BoolOp .Or (a :: b :: rest) pos) Γ (c || c') := fun T0 T σ ok Q hQ =>
  wpW_of (fun _ => tOr (wpT F a) (wpW F (.BoolOp .Or (b :: rest) pos))) (fun p => pw_or (pt_wp p) (pw_wp p)) fun _ => h T0 T σ ok _ fun T1 s1 => by
    cases c with
    | true =>
      rw [if_pos rfl]
      exact hQ T1 s1
    | false =>
      rw [if_neg Bool.false_ne_true]
      exact h2 rfl T0 T1 σ (ok.stp s1) Q fun T2 s2 => hQ T2 (s1.trans s2)
theorem ts_not {a : Expr} {pos : Pos} {c : Bool} (h : TsP F a Γ c) : TsP F (.UnaryOp .Not a pos) Γ (!c) := fun T0 T σ ok Q hQ =>
  wpT_of (fun _ => tNot (wpT F a)) (fun p => pt_not (pt_wp p)) fun _ => h T0 T σ ok _ fun T1 s1 => hQ T1 s1
/-- a truth as a test -/
theorem ts_val {e : Expr} {l : Bool} {c : Bool} (h : EvP F e Γ l (.bool c)) (he : ∀ p whole, isTrue e (F.X p).env whole = (do let v ← whole; standAt e.pos; holding [v] (truthy v)) := by intro _ _; rfl) : TsP F e Γ c := fun T0 T σ ok Q hQ =>
  wpT_of (fun _ => tB (wpE F e)) (fun p => pt_val (pe_wp p) (he p)) fun _ => h T0 T σ ok _ fun v T1 s1 q1 => by
    cases q1
    exact ⟨c, rfl, hQ T1 s1⟩
/-- a list as a test -/
theorem ts_lst {e : Expr} {l : Bool} {xs : List PyData} (h : EvP F e Γ l (.list xs)) (he : ∀ p whole, isTrue e (F.X p).env whole = (do let v ← whole; standAt e.pos; holding [v] (truthy v)) := by intro _ _; rfl) : TsP F e Γ (!xs.isEmpty) := fun T0 T σ ok Q hQ =>
  wpT_of (fun p => fun σ H Q => wpE F e σ H fun x H' => ∃ k, TruV (F.X p).K x H' k ∧ Q k H') (fun p => pt_truth (pe_wp p) (he p)) fun p => h T0 T σ ok _ fun v T1 s1 q1 => by
    cases q1 with
    | lst hs ha =>
      refine ⟨_, .inl ⟨_, (by rw [F.hK p]; exact (s1.ok.lh l).seq hs), rfl⟩, ?_⟩
      have e := dpa_len ha
      have : ∀ {ys : List V} {zs : List PyData}, ys.length = zs.length → (!ys.isEmpty) = (!zs.isEmpty) := fun {ys zs} q => by cases ys <;> cases zs <;> simp_all
      rw [this e]
      exact hQ T1 s1
theorem ts_eq {e : Expr} {c c' : Bool} (h : TsP F e Γ c) (q : c = c') : TsP F e Γ c' := q ▸ h

/-! ### subscripts -/
theorem atI_dp {K : PySem.W.Frag} {H : Hp} {vs : List V} {ds : List PyData} {i : Int} {d : PyData} (h : DpAll K H vs ds) (e : atI ds i = some d) : ∃ v, atI vs i = some v ∧ Dp K H v d := by
  obtain ⟨j, h1, h2⟩ := Option.bind_eq_some_iff.mp e
  obtain ⟨v, q1, q2⟩ := dpa_get h h2
  exact ⟨v, Option.bind_eq_some_iff.mpr ⟨j, by rw [dpa_len h]; exact h1, q1⟩, q2⟩
theorem ev_ixL {a b : Expr} {pos : Pos} {l l' : Bool} {xs : List PyData} {i : Int} {d : PyData} (ha : EvP F a Γ l (.list xs)) (hb : EvP F b Γ l' (.int i)) (hd : atI xs i = some d) (hs : PlainIx b := by intro _ _; rfl) : EvP F (.Subscript a b pos) Γ l d := fun T0 T σ ok Q hQ =>
  wpE_of (fun p => tOp (rIxL (F.X p).K) (wpE F a) (wpE F b)) (fun p => pe_ix ix_list (pe_wp p) (pe_wp p) hs) fun p => ha T0 T σ ok _ fun x T1 s1 q1 => hb T0 T1 σ (ok.stp s1) _ fun y T2 s2 q2 => by
    cases q1 with
    | lst hs ha =>
      cases q2
      obtain ⟨v, e1, e2⟩ := atI_dp ha hd
      refine ⟨_, _, i, v, rfl, rfl, (by rw [F.hK p]; exact ((s2.l l).trans (s2.ok.lh l)).seq hs), e1, hQ v T2 (s1.trans s2) (up e2 (s2.l l))⟩
theorem ev_ixT {a b : Expr} {pos : Pos} {l l' : Bool} {xs : List PyData} {i : Int} {d : PyData} (ha : EvP F a Γ l (.tuple xs)) (hb : EvP F b Γ l' (.int i)) (hd : atI xs i = some d) (hs : PlainIx b := by intro _ _; rfl) : EvP F (.Subscript a b pos) Γ l d := fun T0 T σ ok Q hQ =>
  wpE_of (fun p => tOp (rIxT (F.X p).K) (wpE F a) (wpE F b)) (fun p => pe_ix ix_tup (pe_wp p) (pe_wp p) hs) fun p => ha T0 T σ ok _ fun x T1 s1 q1 => hb T0 T1 σ (ok.stp s1) _ fun y T2 s2 q2 => by
    cases q1 with
    | tup hs ha =>
      cases q2
      obtain ⟨v, e1, e2⟩ := atI_dp ha hd
      refine ⟨_, _, i, v, rfl, rfl, (by rw [F.hK p]; exact sqt_mono ((s2.l l).trans (s2.ok.lh l)) hs), e1, hQ v T2 (s1.trans s2) (up e2 (s2.l l))⟩
theorem ev_ixS {a b : Expr} {pos : Pos} {l l' m : Bool} {z : Str} {i : Int} {c : Nat} (ha : EvP F a Γ l (.str z)) (hb : EvP F b Γ l' (.int i)) (hz : z.length ≤ sizeLine) (hd : atI z.cps.toList i = some c) (hs : PlainIx b := by intro _ _; rfl) : EvP F (.Subscript a b pos) Γ m (.str ⟨#[c]⟩) := fun T0 T σ ok Q hQ =>
  wpE_of (fun p => tOp rIxS (wpE F a) (wpE F b)) (fun p => pe_ix ix_str (pe_wp p) (pe_wp p) hs) fun p => ha T0 T σ ok _ fun x T1 s1 q1 => hb T0 T1 σ (ok.stp s1) _ fun y T2 s2 q2 => by
    cases q1
    cases q2
    exact ⟨z, i, c, rfl, rfl, hz, hd, hQ _ T2 (s1.trans s2) (.str _)⟩
/-! ### slices -/
def wpO (F : Fm) (e : Option Expr) : TO := fun σ H Q => ∀ p pins s, Inv (F.X p) pins σ H s → wpAny (model (F.X p).prog (F.X p).w) (F.X p).A (evalPart e (F.X p).env) (fun u s' => ∃ o H', Inv (F.X p) pins σ H' s' ∧ IsPart u o ∧ Q o H') (F.X p).xe s
theorem po_wp {e : Option Expr} (p : F.I) : PO (F.X p) e (wpO F e) := ⟨fun pins s _ _ _ I h => h p pins s I⟩
def EvO (F : Fm) (e : Option Expr) (Γ : List En) (o : Option Int) : Prop :=
  ∀ (T0 T : Hs) (σ : St), EnvOk F.K T0 T σ Γ → ∀ Q : Option Int → Hp → Prop, (∀ T', Stp T T' → Q o T'.H) → wpO F e σ T.H Q
theorem eo_none : EvO F none Γ none := fun T0 T σ ok Q hQ p pins s I => (po_none (X := F.X p)).run pins s σ T.H Q I (hQ T (.refl ok.ok))
theorem eo_some {e : Expr} {l : Bool} {i : Int} (h : EvP F e Γ l (.int i)) : EvO F (some e) Γ (some i) := fun T0 T σ ok Q hQ p pins s I => (po_some (pe_wp p)).run pins s σ T.H Q I (h T0 T σ ok _ fun v T1 s1 q1 => by
  cases q1
  exact ⟨i, rfl, hQ T1 s1⟩)
def cutL {α : Type} (xs : List α) (lo hi : Option Int) : List α := (xs.drop (HT.sIx xs.length 0 lo)).take (HT.sIx xs.length xs.length hi - HT.sIx xs.length 0 lo)
theorem dpa_drop {K : PySem.W.Frag} {H : Hp} : ∀ (n : Nat) {vs : List V} {ds : List PyData}, DpAll K H vs ds → DpAll K H (vs.drop n) (ds.drop n)
  | 0, _, _, h => h
  | n + 1, _, [], h => by cases h; exact .nil
  | n + 1, _, d :: ds, h => by
    cases h with
    | cons _ t => exact dpa_drop n t
theorem dpa_take {K : PySem.W.Frag} {H : Hp} : ∀ (n : Nat) {vs : List V} {ds : List PyData}, DpAll K H vs ds → DpAll K H (vs.take n) (ds.take n)
  | 0, _, _, h => .nil
  | n + 1, _, [], h => by cases h; exact .nil
  | n + 1, _, d :: ds, h => by
    cases h with
    | cons a t => exact .cons a (dpa_take n t)
theorem dpa_cut {K : PySem.W.Frag} {H : Hp} {vs : List V} {ds : List PyData} (h : DpAll K H vs ds) (lo hi : Option Int) : DpAll K H (cutV vs lo hi) (cutL ds lo hi) := by
  unfold cutV cutL
  rw [dpa_len h]
  exact dpa_take _ (dpa_drop _ h)
theorem en_sl {a : Expr} {lo hi : Option Expr} {pos p2 : Pos} {l : Bool} {xs : List PyData} {i j : Option Int} (ha : EvP F a Γ l (.list xs)) (h1 : EvO F lo Γ i) (h2 : EvO F hi Γ j) : EvN F (.Subscript a (.Slice lo hi none p2) pos) Γ l (cutL xs i j) := fun T0 T σ ok Q hQ =>
  wpE_of (fun p => tSl (rSlL (F.X p).K) (wpE F a) (wpO F lo) (wpO F hi)) (fun p => pe_slice sl_list (pe_wp p) (po_wp p) (po_wp p)) fun p => ha T0 T σ ok _ fun x T1 s1 q1 => h1 T0 T1 σ (ok.stp s1) _ fun T2 s2 => h2 T0 T2 σ ((ok.stp s1).stp s2) _ fun T3 s3 => by
    cases q1 with
    | lst hs ha =>
      have s23 := s2.trans s3
      refine ⟨_, _, rfl, (by rw [F.hK p]; exact ((s23.l l).trans (s23.ok.lh l)).seq hs), fun q n => ?_⟩
      have z := sql_len s1.ok hs
      have hz : (cutV _ i j).length ≤ sizeLine := Nat.le_trans (cutV_length _ i j) z
      have s4 := stp_opn s3.ok (xs := cutV _ i j) n hz
      exact hQ q _ (T3.opn q _) (s1.trans (s23.trans s4)) ((s1.trans s23).h.free n) (s3.ok.gn n) upd_same (upA (dpa_cut ha i j) ((s23.trans s4).l l))
end
end T2
end
section
set_option Elab.async false
set_option linter.all false
set_option autoImplicit false
set_option maxRecDepth 100000
namespace T2
open PySem PySem.Spec L2
open PyProof.Rows hiding St

section
variable {F : Fm} {Γ : List En}

/-! ### what is walked -/
theorem sub_ok {T T' : Hs} (o : T'.Ok) (f : Same T.F T'.F) (g : Same T.G T'.G) : ∀ b, Same (T.lv b) T'.H
  | true => f.trans (o.fg.trans o.gh)
  | false => g.trans o.gh
theorem sub_lv {T T' : Hs} (f : Same T.F T'.F) (g : Same T.G T'.G) : ∀ b, Same (T.lv b) (T'.lv b)
  | true => f
  | false => g
theorem it_list {tg e : Expr} {l : Bool} {xs : List PyData} (h : EvP F e Γ l (.list xs)) : ItP F tg e Γ l xs := fun T0 T σ ok R hR =>
  wpI_of (fun p => iList (F.X p).K (wpE F e)) (fun p => pi_list (pe_wp p)) fun p => h T0 T σ ok _ fun v T1 s1 q1 => by
    cases q1 with
    | @lst a vs _ hs ha =>
      rw [F.hK p]
      refine ⟨_, rfl, ⟨_, (s1.ok.lh l).seq hs⟩, hR _ T1 s1 ⟨fun T' i d o f g e => ?_, fun T' i o f g e => ?_⟩ ?_⟩
      · obtain ⟨v, h1, h2⟩ := dpa_get ha e
        have hs' : SqL F.K T'.H a vs := (sub_ok o f g l).seq hs
        refine ⟨⟨_, v, hs', h1⟩, fun x H' y => ?_⟩
        obtain ⟨rfl, y⟩ := y
        have ex : x = v := Option.some.inj ((y _ hs').symm.trans h1)
        subst ex
        exact ⟨T', .refl o, rfl, up h2 (sub_lv f g l)⟩
      · exact ⟨vs, (sub_ok o f g l).seq hs, by rw [dpa_len ha]; exact e⟩
      · rw [← dpa_len ha]; exact sql_len s1.ok hs
theorem it_tup {tg e : Expr} {l : Bool} {xs : List PyData} (h : EvP F e Γ l (.tuple xs)) (hz : xs.length ≤ sizeLine := by decide) : ItP F tg e Γ l xs := fun T0 T σ ok R hR =>
  wpI_of (fun p => iTup (F.X p).K (wpE F e)) (fun p => pi_tup (pe_wp p)) fun p => h T0 T σ ok _ fun v T1 s1 q1 => by
    cases q1 with
    | @tup a vs _ hs ha =>
      rw [F.hK p]
      refine ⟨_, rfl, ⟨_, sqt_mono (s1.ok.lh l) hs⟩, hR _ T1 s1 ⟨fun T' i d o f g e => ?_, fun T' i o f g e => ?_⟩ ?_⟩
      · obtain ⟨v, h1, h2⟩ := dpa_get ha e
        have hs' : SqT F.K T'.H a vs := sqt_mono (sub_ok o f g l) hs
        refine ⟨⟨_, v, hs', h1⟩, fun x H' y => ?_⟩
        obtain ⟨rfl, y⟩ := y
        have ex : x = v := Option.some.inj ((y _ hs').symm.trans h1)
        subst ex
        exact ⟨T', .refl o, rfl, up h2 (sub_lv f g l)⟩
      · exact ⟨vs, sqt_mono (sub_ok o f g l) hs, by rw [dpa_len ha]; exact e⟩
      · exact hz
/-- lo, lo + c, .. -/
def rngL (lo c : Int) (n : Nat) : List Int := (List.range n).map fun i => lo + (i : Nat) * c
theorem rngL_len (lo c : Int) (n : Nat) : (rngL lo c n).length = n := by unfold rngL; rw [List.length_map, List.length_range]
theorem rngL_get {lo c : Int} {n i : Nat} {x : Int} (h : (rngL lo c n)[i]? = some x) : i < n ∧ x = lo + (i : Nat) * c := by
  unfold rngL at h
  rw [List.getElem?_map] at h
  by_cases hi : i < n
  · rw [List.getElem?_range hi] at h
    exact ⟨hi, (Option.some.inj h).symm⟩
  · rw [List.getElem?_eq_none (by simp; omega)] at h
    cases h
theorem int_get {ns : List Int} {i : Nat} {d : PyData} (h : (ns.map PyData.int)[i]? = some d) : ∃ n, ns[i]? = some n ∧ d = .int n := by
  rw [List.getElem?_map] at h
  cases q : ns[i]? with
  | none => rw [q] at h; cases h
  | some n => rw [q] at h; exact ⟨n, rfl, (Option.some.inj h).symm⟩
theorem it_range1 {tg a : Expr} {p pos : Pos} {l : Bool} {j : Int} (h : EvA F [a] Γ [(l, .int j)]) (hm : F.mg "range" = none) (h2 : j ≤ 16777216) (h1 : -(2 ^ 62) ≤ j := by omega) (hg : ∀ p, Gl (F.X p) "range" := by intro _; rfl) (hs : ∀ p, starEach [a] (F.X p).env = [(false, eval a (F.X p).env)] := by intro _; rfl) :
    ItP F tg (.Call (.Name "range" p) [a] [] pos) Γ true ((rngL 0 1 j.toNat).map .int) := fun T0 T σ ok R hR =>
  wpI_of (fun _ => iRng1 (wpA F [a])) (fun p => pi_range1 (hg p) (by rw [F.hm p]; exact hm) (pa_wp p) (hs p)) fun _ => h T0 T σ ok _ fun vs T1 s1 q1 => by
    obtain ⟨v, rfl⟩ : ∃ v, vs = [v] := by
      match vs, q1 with
      | [v], _ => exact ⟨v, rfl⟩
    obtain ⟨q1, _⟩ := q1
    cases q1
    refine ⟨j, rfl, h1, by omega, hR _ T1 s1 ⟨fun T' i d o f g e => ?_, fun T' i o f g e => ?_⟩ ?_⟩
    · obtain ⟨n, e1, rfl⟩ := int_get e
      obtain ⟨e2, rfl⟩ := rngL_get e1
      refine ⟨e2, fun x H' y => ?_⟩
      obtain ⟨rfl, rfl⟩ := y
      refine ⟨T', .refl o, rfl, ?_⟩
      rw [Int.mul_one]
      exact .int _
    · rw [List.length_map, rngL_len] at e
      exact e
    · rw [List.length_map, rngL_len, sizeLine_eq]; omega
theorem it_range2 {tg a b : Expr} {p pos : Pos} {l l' : Bool} {i j : Int} (h : EvA F [a, b] Γ [(l, .int i), (l', .int j)]) (hm : F.mg "range" = none) (h5 : j - i ≤ 16777216) (h1 : -(2 ^ 62) ≤ i := by omega) (h2 : i < 2 ^ 62 := by omega) (h3 : -(2 ^ 62) ≤ j := by omega) (h4 : j < 2 ^ 62 := by omega) (hg : ∀ p, Gl (F.X p) "range" := by intro _; rfl)
    (hs : ∀ p, starEach [a, b] (F.X p).env = [(false, eval a (F.X p).env), (false, eval b (F.X p).env)] := by intro _; rfl) (hs2 : ∀ p, starEach [b] (F.X p).env = [(false, eval b (F.X p).env)] := by intro _; rfl) :
    ItP F tg (.Call (.Name "range" p) [a, b] [] pos) Γ true ((rngL i 1 (j - i).toNat).map .int) := fun T0 T σ ok R hR =>
  wpI_of (fun _ => iRng2 (wpA F [a, b])) (fun p => pi_range2 (hg p) (by rw [F.hm p]; exact hm) (pa_wp p) (hs p) (hs2 p)) fun _ => h T0 T σ ok _ fun vs T1 s1 q1 => by
    obtain ⟨v, u, rfl⟩ : ∃ v u, vs = [v, u] := by
      match vs, q1 with
      | [v, u], _ => exact ⟨v, u, rfl⟩
    obtain ⟨q1, q2, _⟩ := q1
    cases q1
    cases q2
    refine ⟨i, j, rfl, ⟨h1, h2, h3, h4⟩, hR _ T1 s1 ⟨fun T' n d o f g e => ?_, fun T' n o f g e => ?_⟩ ?_⟩
    · obtain ⟨m, e1, rfl⟩ := int_get e
      obtain ⟨e2, rfl⟩ := rngL_get e1
      refine ⟨e2, fun x H' y => ?_⟩
      obtain ⟨rfl, rfl⟩ := y
      refine ⟨T', .refl o, rfl, ?_⟩
      rw [Int.mul_one]
      exact .int _
    · rw [List.length_map, rngL_len] at e
      exact e
    · rw [List.length_map, rngL_len, sizeLine_eq]; omega
theorem it_range3 {tg a b c : Expr} {p pos : Pos} {l l' l2 : Bool} {i j k : Int} {n : Nat} (h : EvA F [a, b, c] Γ [(l, .int i), (l', .int j), (l2, .int k)]) (hm : F.mg "range" = none) (hr : RgC i j k n) (hz : n ≤ 16777216) (hg : ∀ p, Gl (F.X p) "range" := by intro _; rfl)
    (hs : ∀ p, starEach [a, b, c] (F.X p).env = (false, eval a (F.X p).env) :: starEach [b, c] (F.X p).env := by intro _; rfl) (hpl : ∀ p, (backTo pos (starEach [b, c] (F.X p).env)).any (·.1) = false := by intro _; rfl) :
    ItP F tg (.Call (.Name "range" p) [a, b, c] [] pos) Γ true ((rngL i k n).map .int) := fun T0 T σ ok R hR =>
  wpI_of (fun _ => iRng3 (wpA F [a, b, c])) (fun p => pi_range3 (hg p) (by rw [F.hm p]; exact hm) (pa_wp p) (hs p) (hpl p)) fun _ => h T0 T σ ok _ fun vs T1 s1 q1 => by
    obtain ⟨v, u, t, rfl⟩ : ∃ v u t, vs = [v, u, t] := by
      match vs, q1 with
      | [v, u, t], _ => exact ⟨v, u, t, rfl⟩
    obtain ⟨q1, q2, q3, _⟩ := q1
    cases q1
    cases q2
    cases q3
    refine ⟨i, j, k, n, rfl, hr, hR _ T1 s1 ⟨fun T' m d o f g e => ?_, fun T' m o f g e => ?_⟩ ?_⟩
    · obtain ⟨m', e1, rfl⟩ := int_get e
      obtain ⟨e2, rfl⟩ := rngL_get e1
      refine ⟨e2, fun x H' y => ?_⟩
      obtain ⟨rfl, rfl⟩ := y
      exact ⟨T', .refl o, rfl, .int _⟩
    · rw [List.length_map, rngL_len] at e
      exact e
    · rw [List.length_map, rngL_len, sizeLine_eq]; omega
/-- pairs of places and items -/
def enumD (xs : List PyData) : List PyData := xs.mapIdx fun i d => .tuple [.int (i : Nat), d]
theorem it_enum {e : Expr} {p pos tpos : Pos} {elts : List Expr} {kk : Nat} {l : Bool} {xs : List PyData} (h : EvA F [e] Γ [(l, .list xs)]) (hm : F.mg "enumerate" = none) (hg : ∀ p, Gl (F.X p) "enumerate" := by intro _; rfl) (hs : ∀ p, starEach [e] (F.X p).env = [(false, eval e (F.X p).env)] := by intro _; rfl) :
    ItP F (.Tuple elts kk tpos) (.Call (.Name "enumerate" p) [e] [] pos) Γ l (enumD xs) := fun T0 T σ ok R hR =>
  wpI_of (fun p => iEnum (F.X p).K (wpA F [e])) (fun p => pi_enum (hg p) (by rw [F.hm p]; exact hm) (pa_wp p) (hs p)) fun p => h T0 T σ ok _ fun vs T1 s1 q1 => by
    obtain ⟨v, rfl⟩ : ∃ v, vs = [v] := by
      match vs, q1 with
      | [v], _ => exact ⟨v, rfl⟩
    obtain ⟨q1, _⟩ := q1
    rw [F.hK p]
    cases q1 with
    | @lst a vs _ hs ha =>
      refine ⟨_, _, rfl, (s1.ok.lh l).seq hs, hR _ T1 s1 ⟨fun T' i d o f g e => ?_, fun T' i o f g e => ?_⟩ ?_⟩
      · unfold enumD at e
        rw [List.getElem?_mapIdx] at e
        cases q : xs[i]? with
        | none => rw [q] at e; cases e
        | some d0 =>
          rw [q] at e
          have e' := Option.some.inj e
          subst e'
          obtain ⟨v, h1, h2⟩ := dpa_get ha q
          have hs' : SqL F.K T'.H a vs := (sub_ok o f g l).seq hs
          refine ⟨⟨_, v, hs', h1⟩, fun x H' y => ?_⟩
          obtain ⟨t, x1, rfl, nt, rfl, y⟩ := y
          have ex : x1 = v := Option.some.inj ((y _ hs').symm.trans h1)
          subst ex
          have s2 := stp_tup o (xs := [.int (i : Nat), x1]) nt
          exact ⟨T'.tup t _, s2, rfl, .tup (.of tup_at) (.cons (.int _) (.cons (up (up h2 (sub_lv f g l)) (s2.l l)) .nil))⟩
      · refine ⟨vs, (sub_ok o f g l).seq hs, ?_⟩
        rw [dpa_len ha]
        unfold enumD at e
        rw [List.length_mapIdx] at e
        exact e
      · unfold enumD
        rw [List.length_mapIdx, ← dpa_len ha]; exact sql_len s1.ok hs
def zipD (xs ys : List PyData) : List PyData := List.zipWith (fun a b => .tuple [a, b]) xs ys
theorem it_zip {e e2 : Expr} {p pos tpos : Pos} {elts : List Expr} {kk : Nat} {l : Bool} {xs ys : List PyData} (h : EvA F [e, e2] Γ [(l, .list xs), (l, .list ys)]) (hm : F.mg "zip" = none) (hg : ∀ p, Gl (F.X p) "zip" := by intro _; rfl)
    (hs : ∀ p, starEach [e, e2] (F.X p).env = (false, eval e (F.X p).env) :: starEach [e2] (F.X p).env := by intro _; rfl) (hpl : ∀ p, (backTo pos (starEach [e2] (F.X p).env)).any (·.1) = false := by intro _; rfl) :
    ItP F (.Tuple elts kk tpos) (.Call (.Name "zip" p) [e, e2] [] pos) Γ l (zipD xs ys) := fun T0 T σ ok R hR =>
  wpI_of (fun p => iZip (F.X p).K (wpA F [e, e2])) (fun p => pi_zip (hg p) (by rw [F.hm p]; exact hm) (pa_wp p) (hs p) (hpl p)) fun p => h T0 T σ ok _ fun vs T1 s1 q1 => by
    obtain ⟨v, u, rfl⟩ : ∃ v u, vs = [v, u] := by
      match vs, q1 with
      | [v, u], _ => exact ⟨v, u, rfl⟩
    obtain ⟨q1, q2, _⟩ := q1
    rw [F.hK p]
    cases q1 with
    | @lst a vs _ hs ha =>
      cases q2 with
      | @lst b us _ hs2 hb =>
        refine ⟨_, _, _, _, rfl, (s1.ok.lh l).seq hs, (s1.ok.lh l).seq hs2, hR _ T1 s1 ⟨fun T' i d o f g e => ?_, fun T' i o f g e => ?_⟩ ?_⟩
        · unfold zipD at e
          rw [List.getElem?_zipWith] at e
          cases q : xs[i]? with
          | none => rw [q] at e; cases e
          | some d0 =>
            rw [q] at e
            cases r : ys[i]? with
            | none => rw [r] at e; cases e
            | some d1 =>
              rw [r] at e
              have e' := Option.some.inj e
              subst e'
              obtain ⟨v, h1, h2⟩ := dpa_get ha q
              obtain ⟨u, h3, h4⟩ := dpa_get hb r
              have hs' : SqL F.K T'.H a vs := (sub_ok o f g l).seq hs
              have hs2' : SqL F.K T'.H b us := (sub_ok o f g l).seq hs2
              refine ⟨⟨_, _, v, u, hs', hs2', h1, h3⟩, fun x H' y => ?_⟩
              obtain ⟨t, x1, x2, rfl, nt, rfl, y1, y2⟩ := y
              have ex : x1 = v := Option.some.inj ((y1 _ hs').symm.trans h1)
              have ex2 : x2 = u := Option.some.inj ((y2 _ hs2').symm.trans h3)
              subst ex ex2
              have s2 := stp_tup o (xs := [x1, x2]) nt
              exact ⟨T'.tup t _, s2, rfl, .tup (.of tup_at) (.cons (up (up h2 (sub_lv f g l)) (s2.l l)) (.cons (up (up h4 (sub_lv f g l)) (s2.l l)) .nil))⟩
        · refine ⟨vs, us, (sub_ok o f g l).seq hs, (sub_ok o f g l).seq hs2, ?_⟩
          rw [dpa_len ha, dpa_len hb]
          unfold zipD at e
          rw [List.length_zipWith] at e
          omega
        · have z := sql_len s1.ok hs
          rw [dpa_len ha] at z
          unfold zipD
          rw [List.length_zipWith]
          omega
/-- the signs of a text -/
def signs (z : Str) : List PyData := z.cps.toList.map fun c => .str ⟨#[c]⟩
theorem it_str {tg e : Expr} {l m : Bool} {z : Str} (h : EvP F e Γ l (.str z)) (hz : z.length ≤ sizeLine) : ItP F tg e Γ m (signs z) := fun T0 T σ ok R hR =>
  wpI_of (fun _ => iStr (wpE F e)) (fun p => pi_str (pe_wp p)) fun _ => h T0 T σ ok _ fun v T1 s1 q1 => by
    cases q1
    refine ⟨z, rfl, hR _ T1 s1 ⟨fun T' i d o f g e => ?_, fun T' i o f g e => ?_⟩ ?_⟩
    · unfold signs at e
      rw [List.getElem?_map] at e
      cases q : z.cps.toList[i]? with
      | none => rw [q] at e; cases e
      | some c =>
        rw [q] at e
        have e' := Option.some.inj e
        subst e'
        have hi : i < z.cps.size := by
          have := (List.getElem?_eq_some_iff.mp q).1
          simpa using this
        refine ⟨hi, fun x H' y => ?_⟩
        obtain ⟨rfl, c', hc, rfl⟩ := y
        have ec : c' = c := by
          rw [Array.getElem?_toList] at q
          exact Option.some.inj (hc.symm.trans q)
        subst ec
        exact ⟨T', .refl o, rfl, .str _⟩
    · unfold signs at e
      rw [List.length_map, Array.length_toList] at e
      exact e
    · unfold signs
      rw [List.length_map, Array.length_toList]
      exact hz

/-! ### targets -/
theorem wipe_set (σ : St) (k : Nat) (u : Option V) : ∀ ws : List Nat, k ∈ ws → wipe (σ.set k u) ws = wipe σ ws
  | [], h => by cases h
  | w :: ws, h => by
    unfold wipe
    by_cases hk : k ∈ ws
    · rw [wipe_set σ k u ws hk]
    · have e : k = w := by
        rcases List.mem_cons.mp h with z | z
        · exact z
        · exact absurd z hk
      subst e
      have q : ∀ vs : List Nat, k ∉ vs → wipe (σ.set k u) vs = (wipe σ vs).set k u := by
        intro vs
        induction vs with
        | nil => intro _; rfl
        | cons v vs ih =>
          intro hv
          unfold wipe
          rw [ih (fun z => hv (List.mem_cons_of_mem _ z)), List.set_comm u none (show k ≠ v from fun z => hv (by rw [z]; exact List.mem_cons_self))]
      rw [q ws hk, List.set_set]
theorem tg_name {x : Str} {pos : Pos} {b : Bool} {d : PyData} (i : Nat) (hi : F.N[i]? = some x := by rfl) (hx : ∀ p, Loc (F.X p).env.scope x := by intro _; first | exact Or.inl rfl | exact Or.inr rfl)
    (hf : ∀ p, (F.X p).fn x = true ∨ (F.X p).env.scope.names.lookup x = some .local := by intro _; first | exact .inl rfl | exact .inr rfl) : TgP F (.Name x pos) Γ b d [i] (Γ.set i (.d b d)) := fun T0 T σ v ok hv Q hQ =>
  wpG_of (fun _ => gName i) (fun p => pg_name (by rw [F.hN p]; exact F.nd) (by rw [F.hN p]; exact hi) (hx p) (hf p)) fun _ => hQ _ (ok.set i hv) fun ws h => wipe_set σ i _ ws (h i List.mem_cons_self)
/-- names of a tuple, one after another -/
def wpGs (F : Fm) (ts : List Expr) : TGs := fun vs σ H Q => ∀ p pins s us, Inv (F.X p) pins σ H s → Vals vs us → wpAny (model (F.X p).prog (F.X p).w) (F.X p).A (assignInOrder ((assignEach ts (F.X p).env).map (·.2)) us) (fun _ s' => ∃ σ' H', Inv (F.X p) pins σ' H' s' ∧ Q σ' H') (F.X p).xe s
theorem pgs_wp {ts : List Expr} (p : F.I) : PGs (F.X p) ts (wpGs F ts) := ⟨fun pins s _ _ _ us _ I r h => h p pins s us I r⟩
def TgA (F : Fm) (ts : List Expr) (Γ : List En) (b : Bool) (ds : List PyData) (vs : List Nat) (Γ' : List En) : Prop :=
  ∀ (T0 T : Hs) (σ : St) (us : List V), EnvOk F.K T0 T σ Γ → DpAll F.K (T.lv b) us ds → ∀ Q : St → Hp → Prop, (∀ σ', EnvOk F.K T0 T σ' Γ' → (∀ ws, (∀ i ∈ vs, i ∈ ws) → wipe σ' ws = wipe σ ws) → Q σ' T.H) → wpGs F ts us σ T.H Q
theorem ga_nil {b : Bool} : TgA F [] Γ b [] [] Γ := fun T0 T σ us ok hv Q hQ p pins s us' I r => by
  cases hv
  exact pgs_nil.run pins s σ T.H [] us' Q I r ⟨rfl, hQ σ ok fun _ _ => rfl⟩
theorem ga_cons {e : Expr} {es : List Expr} {b : Bool} {d : PyData} {ds : List PyData} {vs ws : List Nat} {Γ1 Γ2 : List En} (h1 : TgP F e Γ b d vs Γ1) (h2 : TgA F es Γ1 b ds ws Γ2)
    (hs : ∀ p, (assignEach (e :: es) (F.X p).env).map (·.2) = assign e (F.X p).env :: (assignEach es (F.X p).env).map (·.2) := by intro _; rfl) : TgA F (e :: es) Γ b (d :: ds) (vs ++ ws) Γ2 := fun T0 T σ us ok hv Q hQ p pins s us' I r => by
  cases hv with
  | @cons v us _ _ hv hvs =>
    refine (pgs_cons (pg_wp p) (pgs_wp p) (hs p)).run pins s σ T.H _ us' Q I r ⟨v, us, rfl, h1 T0 T σ v ok hv _ fun σ1 ok1 w1 => h2 T0 T σ1 us ok1 hvs Q fun σ2 ok2 w2 => hQ σ2 ok2 fun zs hz => ?_⟩
    rw [w2 zs fun i hi => hz i (List.mem_append_right _ hi), w1 zs fun i hi => hz i (List.mem_append_left _ hi)]
theorem tg_tup {es : List Expr} {k : Nat} {pos : Pos} {b : Bool} {ds : List PyData} {vs : List Nat} {Γ' : List En} (h : TgA F es Γ b ds vs Γ') (hn : ∀ p, (assignEach es (F.X p).env).length = ds.length := by intro _; rfl) (hst : ∀ p, (assignEach es (F.X p).env).findIdx? (·.1) = none := by intro _; rfl) : TgP F (.Tuple es k pos) Γ b (.tuple ds) vs Γ' := fun T0 T σ v ok hv Q hQ =>
  wpG_of (fun p => gTup (F.X p).K ds.length (wpGs F es)) (fun p => pg_tup (F.hc p) (pgs_wp p) (hn p) (hst p)) fun p => by
    cases hv with
    | @tup a us _ hs ha =>
      refine ⟨a, us, rfl, ?_, dpa_len ha, h T0 T σ us ok ha Q hQ⟩
      rw [F.hK p]
      exact sqt_mono (ok.ok.lh b) hs
end
end T2
end
section
set_option Elab.async false
set_option linter.all false
set_option autoImplicit false
set_option maxRecDepth 100000
namespace T2
open PySem PySem.Spec L2
open PyProof.Rows hiding St

/-- the slots of a block's own names forgotten -/
def wipeE (Γ : List En) : List Nat → List En
  | [] => Γ
  | v :: vs => (wipeE Γ vs).set v .no
section
variable {K : PySem.W.Frag} {T0 T T1 : Hs} {σ : St} {Γ : List En}
theorem EnvOk.wipe (h : EnvOk K T0 T σ Γ) : ∀ vs : List Nat, EnvOk K T0 T (wipe σ vs) (wipeE Γ vs)
  | [] => h
  | v :: vs => (EnvOk.wipe h vs).drop v
theorem wipe_wipe (σ : St) : ∀ ws vs : List Nat, (∀ v ∈ vs, v ∈ ws) → L2.wipe (L2.wipe σ vs) ws = L2.wipe σ ws
  | ws, [], _ => rfl
  | ws, v :: vs, h => by
    show L2.wipe ((L2.wipe σ vs).set v none) ws = _
    rw [wipe_set _ v none ws (h v List.mem_cons_self)]
    exact wipe_wipe σ ws vs fun x hx => h x (List.mem_cons_of_mem _ hx)
/-- a hidden list grows -/
theorem Stp.hid {l : Addr} {us ys : List V} (s : Stp T T1) (n : T.H l = none) (hg : T1.G l = none) (hl : T1.H l = some (.lst us)) (hz : ys.length ≤ sizeLine) : Stp T ⟨T1.F, T1.G, upd T1.H l (.lst ys)⟩ := by
  have o := s.ok
  refine ⟨⟨o.fg, fun a x e => ?_, fun a xs e => (hlst_tp o (u := .lst ys) (fun _ z => nomatch z) e).2, fun a ob xs e => (hlst_tz o (u := .lst ys) (fun _ _ z => nomatch z) e).2, bd_upd o.bd hz⟩, s.f, s.g, fun a x e => ?_, s.nf, s.ng, fun a ob u e => s.fz a ob u ?_⟩
  · have e' : T1.G a = some x := e
    show upd T1.H l (.lst ys) a = some x
    rw [upd_ne (ne_of_none e' hg)]
    exact o.gh a x e'
  · show upd T1.H l (.lst ys) a = some x
    rw [upd_ne (ne_of_none e n)]
    exact s.h a x e
  · have e' : upd T1.H l (.lst ys) a = some (.frz ob u) := e
    by_cases hl' : a = l
    · subst hl'; rw [upd_same] at e'; cases e'
    · rw [upd_ne hl'] at e'; exact e'
end
section
variable {F : Fm} {Γ : List En}
/-- what a comprehension makes of the data it walks -/
inductive Cp (F : Fm) (sc : Scope) (tg : Expr) (ifs : List Expr) (elt : Expr) (Γ : List En) (bi b : Bool) (ws : List Nat) : List PyData → List PyData → Prop
  | nil : Cp F sc tg ifs elt Γ bi b ws [] []
  | keep {d y : PyData} {ds ys : List PyData} {vs : List Nat} {Γ1 : List En} : TgP (F.blk sc) tg Γ bi d vs Γ1 → (∀ v ∈ vs, v ∈ ws) → TsF (F.blk sc) ifs Γ1 true → EvP (F.blk sc) elt Γ1 b y → Cp F sc tg ifs elt Γ bi b ws ds ys → Cp F sc tg ifs elt Γ bi b ws (d :: ds) (y :: ys)
  | skip {d : PyData} {ds ys : List PyData} {vs : List Nat} {Γ1 : List En} : TgP (F.blk sc) tg Γ bi d vs Γ1 → (∀ v ∈ vs, v ∈ ws) → TsF (F.blk sc) ifs Γ1 false → Cp F sc tg ifs elt Γ bi b ws ds ys → Cp F sc tg ifs elt Γ bi b ws (d :: ds) ys
theorem Cp.len {F : Fm} {sc : Scope} {tg : Expr} {ifs : List Expr} {elt : Expr} {Γ : List En} {bi b : Bool} {ws : List Nat} {ds ys : List PyData} (h : Cp F sc tg ifs elt Γ bi b ws ds ys) : ys.length ≤ ds.length := by
  induction h with
  | nil => exact Nat.le_refl _
  | keep _ _ _ _ _ ih => rw [List.length_cons, List.length_cons]; omega
  | skip _ _ _ _ ih => rw [List.length_cons]; omega
theorem tsf_nil : TsF F [] Γ true := fun T0 T σ ok Q hQ => wpF_of (fun _ => tYes) (fun _ => pts_nil) fun _ => hQ T (.refl ok.ok)
theorem tsf_one {c : Expr} {k : Bool} (h : TsP F c Γ k) : TsF F [c] Γ k := fun T0 T σ ok Q hQ => wpF_of (fun _ => wpT F c) (fun p => pts_one (pt_wp p)) fun _ => h T0 T σ ok Q hQ
theorem lc_read {sc : Scope} {tg iter : Expr} {ifs : List Expr} {elt : Expr} {bi b : Bool} {ws : List Nat} {ds ys : List PyData} (hi : ItP F tg iter Γ bi ds) (hc : Cp F sc tg ifs elt (wipeE Γ ws) bi b ws ds ys)
    (T0 T : Hs) (σ : St) (ok : EnvOk F.K T0 T σ Γ) (Q : VK) (hQ : ∀ l vs T', Stp T T' → T.H l = none → T'.G l = none → T'.H l = some (.lst vs) → DpAll F.K (T'.lv b) vs ys → Q (.ref l) T'.H) :
    tLc (wpI F tg iter) (wpG (F.blk sc) tg) (wpF (F.blk sc) ifs) (wpE (F.blk sc) elt) ws σ T.H Q := by
  refine hi T0 T σ ok _ fun J T1 s1 Y hz D hD => ?_
  have n0 : T.H D = none := s1.h.free hD
  refine ⟨fun i m H => m = ds.length - i ∧ i ≤ ds.length ∧ ∃ Ti acc ys1 ys2, H = Ti.H ∧ Stp T1 Ti ∧ Ti.H D = some (.lst acc) ∧ Ti.G D = none ∧ DpAll F.K (Ti.lv b) acc ys1 ∧ Cp F sc tg ifs elt (wipeE Γ ws) bi b ws (ds.drop i) ys2 ∧ ys = ys1 ++ ys2 ∧ ys1.length ≤ i,
    ⟨ds.length, by simp, Nat.zero_le _, T1.opn D [], [], [], ys, rfl, stp_opn s1.ok hD (Nat.zero_le _), upd_same, s1.ok.gn hD, .nil, hc, rfl, Nat.le_refl _⟩, fun i m H hW => ?_⟩
  obtain ⟨rfl, hi, Ti, acc, ys1, ys2, rfl, si, hDi, hGi, ha, hcp, hy, hl⟩ := hW
  by_cases hlt : i < ds.length
  · obtain ⟨d, hd⟩ : ∃ d, ds[i]? = some d := ⟨ds[i], List.getElem?_eq_getElem hlt⟩
    have hdr : ds.drop i = d :: ds.drop (i + 1) := by
      rw [List.drop_eq_getElem_cons hlt]
      rw [List.getElem?_eq_getElem hlt] at hd
      rw [Option.some.inj hd]
    rw [hdr] at hcp
    obtain ⟨g1, g2⟩ := Y.go Ti i d si.ok si.f si.g hd
    refine .inr ⟨g1, fun H' => ∃ Ti acc ys1 ys2, H' = Ti.H ∧ Stp T1 Ti ∧ Ti.H D = some (.lst acc) ∧ Ti.G D = none ∧ DpAll F.K (Ti.lv b) acc ys1 ∧ Cp F sc tg ifs elt (wipeE Γ ws) bi b ws (ds.drop (i + 1)) ys2 ∧ ys = ys1 ++ ys2 ∧ ys1.length ≤ i + 1, fun H' q => ⟨ds.length - (i + 1), by omega, rfl, hlt, q⟩, fun x H' y => ?_⟩
    obtain ⟨T2, s2, rfl, hx⟩ := g2 x H' y
    have okw := (((ok.stp s1).stp si).stp s2).wipe ws
    have keepD : ∀ {T3 : Hs}, Stp T2 T3 → T3.H D = some (.lst acc) ∧ T3.G D = none := fun s3 => by
      have z := s2.trans s3
      exact ⟨z.h _ _ hDi, (z.ng D (by rw [hDi]; simp)).trans hGi⟩
    cases hcp with
    | @keep _ yv _ ysr vs Γ1 ht hv hf he hr =>
      refine ht T0 T2 _ x okw hx _ fun σ2 ok2 w2 => ⟨?_, ?_⟩
      · rw [w2 ws hv]
        exact wipe_wipe σ ws ws fun _ h => h
      · refine hf T0 T2 σ2 ok2 _ fun T3 s3 => ?_
        rw [if_pos rfl]
        refine he T0 T3 σ2 (ok2.stp s3) _ fun v T4 s4 q4 => ?_
        obtain ⟨k1, k2⟩ := keepD (s3.trans s4)
        have s24 := s2.trans (s3.trans s4)
        have hal : acc.length = ys1.length := dpa_len ha
        refine ⟨acc, k1, by omega, ⟨⟨T4.F, T4.G, upd T4.H D (.lst (acc ++ [v]))⟩, acc ++ [v], ys1 ++ [yv], ysr, rfl, (si.trans s24).hid hD k2 k1 (by rw [List.length_append]; simp; omega), upd_same, k2, ?_, hr, by rw [List.append_assoc]; exact hy, by rw [List.length_append]; simp; omega⟩⟩
        have := dpa_app (upA ha (s24.l b)) (.cons q4 .nil)
        cases b <;> exact this
    | @skip _ _ _ vs Γ1 ht hv hf hr =>
      refine ht T0 T2 _ x okw hx _ fun σ2 ok2 w2 => ⟨?_, ?_⟩
      · rw [w2 ws hv]
        exact wipe_wipe σ ws ws fun _ h => h
      · refine hf T0 T2 σ2 ok2 _ fun T3 s3 => ?_
        rw [if_neg Bool.false_ne_true]
        obtain ⟨k1, k2⟩ := keepD s3
        have s23 := s2.trans s3
        exact ⟨T3, acc, ys1, ys2, rfl, si.trans s23, k1, k2, upA ha (s23.l b), hr, hy, by omega⟩
  · have e : i = ds.length := by omega
    subst e
    rw [List.drop_length] at hcp
    cases hcp
    refine .inl ⟨Y.stop Ti _ si.ok si.f si.g (Nat.le_refl _), ?_⟩
    rw [List.append_nil] at hy
    subst hy
    exact hQ D acc Ti (s1.trans si) n0 hGi hDi ha
theorem en_lc {sc : Scope} {tg iter : Expr} {ifs : List Expr} {elt : Expr} {pos : Pos} {bi b : Bool} (own : List (Str × Nat)) {ds ys : List PyData} (hi : ItP F tg iter Γ bi ds) (hc : Cp F sc tg ifs elt (wipeE Γ (own.map (·.2))) bi b (own.map (·.2)) ds ys)
    (ok : ∀ p, BlkOk F.N (F.X p).env.scope sc own) (hs : ∀ p x, foldedSetIterable iter (F.X p).env x = pure x := by intro _ _; rfl) : EvN F (.ListComp elt [⟨tg, iter, ifs, 0⟩] sc pos) Γ b ys := fun T0 T σ ok0 Q hQ =>
  wpE_of (fun _ => tLc (wpI F tg iter) (wpG (F.blk sc) tg) (wpF (F.blk sc) ifs) (wpE (F.blk sc) elt) (own.map (·.2)))
    (fun p => pe_lc (own := own) (F.hc p) (by rw [F.hN p]; exact F.nd) (pi_wp p) (by rw [F.hN p]; exact ok p) (fun s H C cl fp => pg_wp (F := F.blk sc) (p, s, H, C, cl, fp)) (fun s H C cl fp => pts_wp (F := F.blk sc) (p, s, H, C, cl, fp)) (fun s H C cl fp => pe_wp (F := F.blk sc) (p, s, H, C, cl, fp)) (hs p))
    fun _ => lc_read hi hc T0 T σ ok0 Q hQ

/-! ### blocks -/
theorem ex_nil : ExB F [] Γ (.nx Γ) := fun T0 T σ ok D hD => wpB_of (fun _ => tNext) (fun _ => pss_nil) fun _ => hD T σ ok (.refl T)
theorem outok_pre {K : PySem.W.Frag} {T0 T T1 : Hs} {D : Ends} {o : Out} (m : Mon T T1) (h : OutOk K T0 T D o) : OutOk K T0 T1 D o := by
  cases o with
  | nx Γ => exact fun T' σ ok m' => h T' σ ok (m.trans m')
  | rt b d => exact h
  | bk Γ => exact fun T' σ ok m' => h T' σ ok (m.trans m')
  | ct Γ => exact fun T' σ ok m' => h T' σ ok (m.trans m')
theorem ex_cons {st : Stmt} {rest : List Stmt} {Γ1 : List En} {o : Out} (h1 : ExS F st Γ (.nx Γ1)) (h2 : ExB F rest Γ1 o) : ExB F (st :: rest) Γ o := fun T0 T σ ok D hD =>
  wpB_of (fun _ => tSeq (wpS F st) (wpB F rest)) (fun p => pss_cons (ps_wp p) (pss_wp p)) fun _ => h1 T0 T σ ok { D with nx := wpB F rest D } fun T1 σ1 ok1 m1 => h2 T0 T1 σ1 ok1 D (outok_pre m1 hD)
/-- it leaves -/
def Out.leaves : Out → Prop
  | .nx _ => False
  | _ => True
theorem ex_stop {st : Stmt} {rest : List Stmt} {o : Out} (h1 : ExS F st Γ o) (hl : o.leaves := by trivial) : ExB F (st :: rest) Γ o := fun T0 T σ ok D hD =>
  wpB_of (fun _ => tSeq (wpS F st) (wpB F rest)) (fun p => pss_cons (ps_wp p) (pss_wp p)) fun _ => h1 T0 T σ ok { D with nx := wpB F rest D } (by
    cases o with
    | nx _ => exact hl.elim
    | rt b d => exact hD
    | bk _ => exact hD
    | ct _ => exact hD)
theorem ex_last {st : Stmt} {o : Out} (h1 : ExS F st Γ o) : ExB F [st] Γ o := fun T0 T σ ok D hD => wpB_of (fun _ => wpS F st) (fun p => pss_one (ps_wp p)) fun _ => h1 T0 T σ ok D hD
theorem ex_weak {sts : List Stmt} {Γ1 Γ2 : List En} (h : ExB F sts Γ (.nx Γ1)) (l : EnvLe Γ1 Γ2) : ExB F sts Γ (.nx Γ2) := fun T0 T σ ok D hD => h T0 T σ ok D fun T1 σ1 ok1 m1 => hD T1 σ1 (ok1.weak l) m1
theorem ex_pre {sts : List Stmt} {Γ1 : List En} {o : Out} (l : EnvLe Γ Γ1) (h : ExB F sts Γ1 o) : ExB F sts Γ o := fun T0 T σ ok D hD => h T0 T σ (ok.weak l) D hD
/-! ### statements -/
theorem es_ret {e : Expr} {pos : Pos} {b : Bool} {d : PyData} (h : EvP F e Γ b d) : ExS F (.Return (some e) pos) Γ (.rt b d) := fun T0 T σ ok D hD =>
  wpS_of (fun _ => tRet (wpE F e)) (fun p => ps_ret (pe_wp p)) fun _ => h T0 T σ ok _ fun v T1 s1 q1 => hD T1 v (ok.st.trans s1) q1
theorem es_ret_eq {e : Expr} {pos : Pos} {b : Bool} {d d' : PyData} (h : EvP F e Γ b d) (q : d = d') : ExS F (.Return (some e) pos) Γ (.rt b d') := q ▸ es_ret h
theorem es_brk {pos : Pos} : ExS F (.Break pos) Γ (.bk Γ) := fun T0 T σ ok D hD => wpS_of (fun _ => tBreak) (fun _ => ps_break) fun _ => hD T σ ok (.refl T)
theorem es_expr {e : Expr} {pos : Pos} {b : Bool} {d : PyData} (h : EvP F e Γ b d) (hs : ∀ p, swapsWith e none pos.line (F.X p).env = pure false := by intro _; rfl) : ExS F (.Expr e pos) Γ (.nx Γ) := fun T0 T σ ok D hD =>
  wpS_of (fun _ => tDrop (wpE F e)) (fun p => ps_expr (pe_wp p) (hs p)) fun _ => h T0 T σ ok _ fun v T1 s1 q1 => hD T1 σ (ok.stp s1) s1.mon
theorem es_set {x : Str} {e : Expr} {pos pos' : Pos} {b : Bool} {d : PyData} (i : Nat) (h : EvP F e Γ b d) (hi : F.N[i]? = some x := by rfl) (hx : ∀ p, Loc (F.X p).env.scope x := by intro _; first | exact Or.inl rfl | exact Or.inr rfl)
    (hs : ∀ p, swapsWith e (some (.Name x pos')) pos.line (F.X p).env = pure false := by intro _; rfl) (hf : ∀ p, (F.X p).fn x = true ∨ (F.X p).env.scope.names.lookup x = some .local := by intro _; first | exact .inl rfl | exact .inr rfl) :
    ExS F (.Assign [.Name x pos'] e pos) Γ (.nx (Γ.set i (.d b d))) := fun T0 T σ ok D hD =>
  wpS_of (fun _ => tAsg (wpE F e) (gName i)) (fun p => ps_set (by rw [F.hN p]; exact F.nd) (by rw [F.hN p]; exact hi) (hx p) (pe_wp p) (hs p) (hf p)) fun _ => h T0 T σ ok _ fun v T1 s1 q1 => hD T1 _ ((ok.stp s1).set i q1) s1.mon
/-- a new list of one's own -/
theorem EnvOk.newO {K : PySem.W.Frag} {T0 T T1 : Hs} {σ : St} {Γ : List En} {l : Addr} {b : Bool} {vs : List V} {xs : List PyData} (ok : EnvOk K T0 T σ Γ) (s1 : Stp T T1) (n : T.H l = none) (g : T1.G l = none) (hl : T1.H l = some (.lst vs)) (ha : DpAll K (T1.lv b) vs xs) (i : Nat) :
    EnvOk K T0 T1 (σ.set i (some (.ref l))) (Γ.set i (.o b xs)) := by
  refine (ok.stp s1).setO i (ok.st.h.free n) g hl ha (fun j c ys q z => ?_) (ok.rg.imp fun Rs w => ⟨w.stp s1, fun j k q => (w.w j k q).2.h.free n⟩)
  obtain ⟨m, us, e1, _, _, e4, _⟩ := ok.has j _ q
  rw [z] at e1
  cases e1
  rw [n] at e4; cases e4
theorem es_setO {x : Str} {e : Expr} {pos pos' : Pos} {b : Bool} {xs : List PyData} (i : Nat) (h : EvN F e Γ b xs) (hi : F.N[i]? = some x := by rfl) (hx : ∀ p, Loc (F.X p).env.scope x := by intro _; first | exact Or.inl rfl | exact Or.inr rfl)
    (hs : ∀ p, swapsWith e (some (.Name x pos')) pos.line (F.X p).env = pure false := by intro _; rfl) (hf : ∀ p, (F.X p).fn x = true ∨ (F.X p).env.scope.names.lookup x = some .local := by intro _; first | exact .inl rfl | exact .inr rfl) :
    ExS F (.Assign [.Name x pos'] e pos) Γ (.nx (Γ.set i (.o b xs))) := fun T0 T σ ok D hD =>
  wpS_of (fun _ => tAsg (wpE F e) (gName i)) (fun p => ps_set (by rw [F.hN p]; exact F.nd) (by rw [F.hN p]; exact hi) (hx p) (pe_wp p) (hs p) (hf p)) fun _ => h T0 T σ ok _ fun l vs T1 s1 n g q a => hD T1 _ (ok.newO s1 n g q a i) s1.mon
/-- x = [e for ..] on one line, x a local: stored within the block's frame -/
theorem es_setLc {y : Str} {py spos : Pos} {sc : Scope} {tg iter : Expr} {ifs : List Expr} {elt : Expr} {pos : Pos} {bi b : Bool} (i : Nat) (own : List (Str × Nat)) {ds ys : List PyData} (hi : ItP F tg iter Γ bi ds) (hc : Cp F sc tg ifs elt (wipeE Γ (own.map (·.2))) bi b (own.map (·.2)) ds ys)
    (ok : ∀ p, BlkOk F.N (F.X p).env.scope sc own) (hy : F.N[i]? = some y := by rfl) (hyl : ∀ p, (F.X p).env.scope.names.lookup y = some .local := by intro _; rfl)
    (hsw : ∀ p, swapsWith (.ListComp elt [⟨tg, iter, ifs, 0⟩] sc pos) (some (.Name y py)) spos.line (F.X p).env = pure true := by intro _; exact sw_true rfl rfl rfl (by decide +kernel))
    (hs : ∀ p x, foldedSetIterable iter (F.X p).env x = pure x := by intro _ _; rfl) : ExS F (.Assign [.Name y py] (.ListComp elt [⟨tg, iter, ifs, 0⟩] sc pos) spos) Γ (.nx (Γ.set i (.o b ys))) := fun T0 T σ ok0 D hD =>
  wpS_of (fun _ => tAsg (tLc (wpI F tg iter) (wpG (F.blk sc) tg) (wpF (F.blk sc) ifs) (wpE (F.blk sc) elt) (List.map (fun x : Str × Nat => x.2) own)) (gName i))
    (fun p => ps_setLc (own := own) (F.hc p) (by rw [F.hN p]; exact F.nd) (by rw [F.hN p]; exact hy) (hyl p) (hsw p) (pi_wp p) (by rw [F.hN p]; exact ok p) (fun s H C cl fp => pg_wp (F := F.blk sc) (p, s, H, C, cl, fp)) (fun s H C cl fp => pts_wp (F := F.blk sc) (p, s, H, C, cl, fp)) (fun s H C cl fp => pe_wp (F := F.blk sc) (p, s, H, C, cl, fp)) (hs p))
    fun _ => show tLc (wpI F tg iter) (wpG (F.blk sc) tg) (wpF (F.blk sc) ifs) (wpE (F.blk sc) elt) (own.map (·.2)) σ T.H (fun x H1 => gName i x σ H1 D.nx) from lc_read hi hc T0 T σ ok0 _ fun l vs T1 s1 n g q a => hD T1 _ (ok0.newO s1 n g q a i) s1.mon
/-- a list of one's own is a datum from here on -/
theorem EnvOk.close {K : PySem.W.Frag} {T0 T : Hs} {σ : St} {Γ : List En} {b : Bool} {xs : List PyData} (ok : EnvOk K T0 T σ Γ) (i : Nat) (hΓ : Γ[i]? = some (.o b xs)) : ∃ T', T'.H = T.H ∧ Mon T T' ∧ EnvOk K T0 T' σ (Γ.set i (.d b (.list xs))) := by
  obtain ⟨l, vs, e1, e2, e3, e4, e5⟩ := ok.has i _ hΓ
  have o := ok.ok
  have fl : T.F l = none := o.fg.free e3
  refine ⟨⟨cond b (upd T.F l (.lst vs)) T.F, upd T.G l (.lst vs), T.H⟩, rfl, ⟨by cases b; exact .refl _; exact same_new fl, same_new e3⟩, ?_⟩
  have fk : ∀ a, a ≠ l → (cond b (upd T.F l (.lst vs)) T.F) a = T.F a := fun a h => by
    cases b
    · rfl
    · exact upd_ne h
  have fs : Same T.F (cond b (upd T.F l (.lst vs)) T.F) := by
    cases b
    · exact .refl _
    · exact same_new fl
  have gs : Same T.G (upd T.G l (.lst vs)) := same_new e3
  have okT : Hs.Ok ⟨cond b (upd T.F l (.lst vs)) T.F, upd T.G l (.lst vs), T.H⟩ := by
    refine ⟨?_, fun x u e => ?_, fun x us e => ?_, fun x ob us e => ?_, o.bd⟩
    · cases b
      · exact o.fg.trans gs
      · exact same_upd2 o.fg
    · have e' : upd T.G l (.lst vs) x = some u := e
      by_cases hx : x = l
      · subst hx; rw [upd_same] at e'; cases e'; exact e4
      · rw [upd_ne hx] at e'; exact o.gh x u e'
    · have hx : x ≠ l := fun z => by
        have e' : T.H x = some (.tup us) := e
        rw [z, e4] at e'; cases e'
      exact (fk x hx).trans (o.tp x us e)
    · have hx : x ≠ l := fun z => by
        have e' : T.H x = some (.frz ob (.tup us)) := e
        rw [z, e4] at e'; cases e'
      exact (fk x hx).trans (o.tz x ob us e)
  have lvs : ∀ c, Same (T.lv c) (Hs.lv ⟨cond b (upd T.F l (.lst vs)) T.F, upd T.G l (.lst vs), T.H⟩ c) := fun c => by
    cases c
    · exact gs
    · exact fs
  have wk : ∃ Rs, WOk K T0 ⟨cond b (upd T.F l (.lst vs)) T.F, upd T.G l (.lst vs), T.H⟩ σ (Γ.set i (.d b (.list xs))) Rs := by
    obtain ⟨Rs, w⟩ := ok.rg
    have os : ∀ {m : Nat} {k : Wk}, (Γ.set i (En.d b (.list xs)))[m]? = some (.w k) → Γ[m]? = some (.w k) := fun q => (set_w (e := .d b (.list xs)) (fun _ z => by cases z) q).2
    refine ⟨Rs, fun j k q => ⟨(w.w j k (os q)).1, (w.w j k (os q)).2.h, fun a o' e t => ⟨((w.w j k (os q)).2.n a o' e t).1, ?_⟩⟩, fun j k a b hjk q q' => w.ww j k a b hjk (os q) (os q'), fun j m k c ys l' q q' z => w.wo j m k c ys l' (os q) (set_o (e := .d b (.list xs)) (fun _ _ z => by cases z) q').2 z⟩
    have hal : a ≠ l := fun z => by
      have := w.wo j i k b xs l (os q) hΓ e1
      rw [z, this] at e; cases e
    show upd T.G l (.lst vs) a = none
    rw [upd_ne hal]
    exact ((w.w j k (os q)).2.n a o' e t).2
  refine ⟨⟨okT, ok.st.f.trans fs, ok.st.g.trans gs, ok.st.h, fun a ha => ?_, fun a ha => ?_, ok.st.fz⟩, by rw [List.length_set]; exact ok.len, fun j e q => ?_, fun j k c ys c' zs hjk q q' => ?_, wk⟩
  · have hal : a ≠ l := fun z => ha (by rw [z]; exact e2)
    exact (fk a hal).trans (ok.st.nf a ha)
  · have hal : a ≠ l := fun z => ha (by rw [z]; exact e2)
    exact (upd_ne hal).trans (ok.st.ng a ha)
  · by_cases hj : i = j
    · subst hj
      rw [List.getElem?_set] at q
      split at q
      · split at q
        · cases q
          refine ⟨.ref l, e1, .lst (xs := vs) (.of ?_) (upA e5 (lvs b))⟩
          cases b <;> exact upd_same
        · cases q
      · exact absurd rfl ‹_›
    · rw [List.getElem?_set_ne hj] at q
      have q' := ok.has j e q
      cases e with
      | no => trivial
      | d c x => obtain ⟨v, z1, z2⟩ := q'; exact ⟨v, z1, up z2 (lvs c)⟩
      | o c ys =>
        obtain ⟨m, us, z1, z2, z3, z4, z5⟩ := q'
        have hm : m ≠ l := fun z => ok.ne i j _ _ _ _ hj hΓ q (by rw [e1, z1, z])
        exact ⟨m, us, z1, z2, (upd_ne hm).trans z3, z4, upA z5 (lvs c)⟩
      | w k => trivial
  · have one : ∀ (m : Nat) (c : Bool) (zs : List PyData), (Γ.set i (En.d b (.list xs)))[m]? = some (.o c zs) → Γ[m]? = some (.o c zs) := fun m c zs q => by
      by_cases hm : i = m
      · subst hm
        rw [List.getElem?_set] at q
        split at q
        · split at q <;> cases q
        · exact absurd rfl ‹_›
      · rw [List.getElem?_set_ne hm] at q
        exact q
    exact ok.ne _ _ _ _ _ _ hjk (one _ _ _ q) (one _ _ _ q')
theorem ex_close {sts : List Stmt} {b : Bool} {xs : List PyData} {o : Out} (i : Nat) (hΓ : Γ[i]? = some (.o b xs)) (h : ExB F sts (Γ.set i (.d b (.list xs))) o) : ExB F sts Γ o := fun T0 T σ ok D hD => by
  obtain ⟨T', e, m, ok'⟩ := ok.close i hΓ
  have := h T0 T' σ ok' D (outok_pre m hD)
  rw [e] at this
  exact this
/-- read as a datum, while what comes out cannot be changed -/
theorem ev_peek {e : Expr} {b c l : Bool} {xs : List PyData} {d : PyData} (i : Nat) (hΓ : Γ[i]? = some (.o b xs)) (h : EvP F e (Γ.set i (.d b (.list xs))) c d) (im : imm d = true := by rfl) : EvP F e Γ l d := fun T0 T σ ok Q hQ => by
  obtain ⟨T', e', _, ok'⟩ := ok.close i hΓ
  have := h T0 T' σ ok' Q fun v T1 s1 q1 => ?_
  · rw [e'] at this; exact this
  · have hs : Same T.H T1.H := by rw [← e']; exact s1.h
    have oT := ok.ok
    have o1 := s1.ok
    -- what was there is as it was; what is new is as told
    let TT : Hs := ⟨fun a => match T.H a with | none => T1.F a | some _ => T.F a, fun a => match T.H a with | none => T1.G a | some _ => T.G a, T1.H⟩
    have fN : ∀ a, T.H a = none → TT.F a = T1.F a := fun a n => by show (match T.H a with | none => T1.F a | some _ => T.F a) = _; rw [n]
    have gN : ∀ a, T.H a = none → TT.G a = T1.G a := fun a n => by show (match T.H a with | none => T1.G a | some _ => T.G a) = _; rw [n]
    have fS : ∀ a, T.H a ≠ none → TT.F a = T.F a := fun a n => by
      show (match T.H a with | none => T1.F a | some _ => T.F a) = _
      cases q : T.H a with
      | none => exact absurd q n
      | some _ => rfl
    have gS : ∀ a, T.H a ≠ none → TT.G a = T.G a := fun a n => by
      show (match T.H a with | none => T1.G a | some _ => T.G a) = _
      cases q : T.H a with
      | none => exact absurd q n
      | some _ => rfl
    have okTT : TT.Ok := by
      refine ⟨fun a u q => ?_, fun a u q => ?_, fun a us q => ?_, fun a ob us q => ?_, o1.bd⟩
      · by_cases n : T.H a = none
        · rw [fN a n] at q; rw [gN a n]; exact o1.fg a u q
        · rw [fS a n] at q; rw [gS a n]; exact oT.fg a u q
      · by_cases n : T.H a = none
        · rw [gN a n] at q; exact o1.gh a u q
        · rw [gS a n] at q; exact hs a u (oT.gh a u q)
      · by_cases n : T.H a = none
        · rw [fN a n]; exact o1.tp a us q
        · rw [fS a n]
          obtain ⟨u, hu⟩ : ∃ u, T.H a = some u := by
            cases q : T.H a with
            | none => exact absurd q n
            | some u => exact ⟨u, rfl⟩
          have q2 : T1.H a = some (.tup us) := q
          rw [hs a u hu] at q2; cases q2
          exact oT.tp a us hu
      · by_cases n : T.H a = none
        · rw [fN a n]; exact o1.tz a ob us q
        · rw [fS a n]
          obtain ⟨u, hu⟩ : ∃ u, T.H a = some u := by
            cases q : T.H a with
            | none => exact absurd q n
            | some u => exact ⟨u, rfl⟩
          have q2 : T1.H a = some (.frz ob (.tup us)) := q
          rw [hs a u hu] at q2; cases q2
          exact oT.tz a ob us hu
    have st : Stp T TT := by
      refine ⟨okTT, fun a u q => ?_, fun a u q => ?_, hs, fS, gS, fun a ob u q => by rw [← e']; exact s1.fz a ob u q⟩
      · rw [fS a (by rw [(oT.fg.trans oT.gh) a u q]; simp)]; exact q
      · rw [gS a (by rw [oT.gh a u q]; simp)]; exact q
    exact hQ v TT st (imm_f okTT (up q1 (o1.lh c)) im l)
theorem ts_peek {e : Expr} {b c : Bool} {xs : List PyData} (i : Nat) (hΓ : Γ[i]? = some (.o b xs)) (h : TsP F e (Γ.set i (.d b (.list xs))) c) : TsP F e Γ c := fun T0 T σ ok Q hQ => by
  obtain ⟨T', e', _, ok'⟩ := ok.close i hΓ
  have := h T0 T' σ ok' Q fun T1 s1 => ?_
  · rw [e'] at this; exact this
  · have hs : Same T.H T1.H := by rw [← e']; exact s1.h
    have oT := ok.ok
    have o1 := s1.ok
    let TT : Hs := ⟨fun a => match T.H a with | none => T1.F a | some _ => T.F a, fun a => match T.H a with | none => T1.G a | some _ => T.G a, T1.H⟩
    have fN : ∀ a, T.H a = none → TT.F a = T1.F a := fun a n => by show (match T.H a with | none => T1.F a | some _ => T.F a) = _; rw [n]
    have gN : ∀ a, T.H a = none → TT.G a = T1.G a := fun a n => by show (match T.H a with | none => T1.G a | some _ => T.G a) = _; rw [n]
    have fS : ∀ a, T.H a ≠ none → TT.F a = T.F a := fun a n => by
      show (match T.H a with | none => T1.F a | some _ => T.F a) = _
      cases q : T.H a with
      | none => exact absurd q n
      | some _ => rfl
    have gS : ∀ a, T.H a ≠ none → TT.G a = T.G a := fun a n => by
      show (match T.H a with | none => T1.G a | some _ => T.G a) = _
      cases q : T.H a with
      | none => exact absurd q n
      | some _ => rfl
    have okTT : TT.Ok := by
      refine ⟨fun a u q => ?_, fun a u q => ?_, fun a us q => ?_, fun a ob us q => ?_, o1.bd⟩
      · by_cases n : T.H a = none
        · rw [fN a n] at q; rw [gN a n]; exact o1.fg a u q
        · rw [fS a n] at q; rw [gS a n]; exact oT.fg a u q
      · by_cases n : T.H a = none
        · rw [gN a n] at q; exact o1.gh a u q
        · rw [gS a n] at q; exact hs a u (oT.gh a u q)
      · by_cases n : T.H a = none
        · rw [fN a n]; exact o1.tp a us q
        · rw [fS a n]
          obtain ⟨u, hu⟩ : ∃ u, T.H a = some u := by
            cases q : T.H a with
            | none => exact absurd q n
            | some u => exact ⟨u, rfl⟩
          have q2 : T1.H a = some (.tup us) := q
          rw [hs a u hu] at q2; cases q2
          exact oT.tp a us hu
      · by_cases n : T.H a = none
        · rw [fN a n]; exact o1.tz a ob us q
        · rw [fS a n]
          obtain ⟨u, hu⟩ : ∃ u, T.H a = some u := by
            cases q : T.H a with
            | none => exact absurd q n
            | some u => exact ⟨u, rfl⟩
          have q2 : T1.H a = some (.frz ob (.tup us)) := q
          rw [hs a u hu] at q2; cases q2
          exact oT.tz a ob us hu
    exact hQ TT ⟨okTT, fun a u q => by rw [fS a (by rw [(oT.fg.trans oT.gh) a u q]; simp)]; exact q, fun a u q => by rw [gS a (by rw [oT.gh a u q]; simp)]; exact q, hs, fS, gS, fun a ob u q => by rw [← e']; exact s1.fz a ob u q⟩
end
end T2
end
section
set_option Elab.async false
set_option linter.all false
set_option autoImplicit false
set_option maxRecDepth 100000
namespace T2
open PySem PySem.Spec L2
open PyProof.Rows hiding St

section
variable {F : Fm} {Γ : List En}
/-! ### if -/
theorem es_if {c : Expr} {a b : List Stmt} {pos : Pos} {k : Bool} {o : Out} (h : TsP F c Γ k) (h1 : k = true → ExB F a Γ o) (h2 : k = false → ExB F b Γ o) : ExS F (.If c a b pos) Γ o := fun T0 T σ ok D hD =>
  wpS_of (fun _ => tIfS (wpT F c) (wpB F a) (wpB F b)) (fun p => ps_if (pt_wp p) (pss_wp p) (pss_wp p)) fun _ => h T0 T σ ok _ fun T1 s1 => by
    cases k with
    | true => rw [if_pos rfl]; exact h1 rfl T0 T1 σ (ok.stp s1) D (outok_pre s1.mon hD)
    | false => rw [if_neg Bool.false_ne_true]; exact h2 rfl T0 T1 σ (ok.stp s1) D (outok_pre s1.mon hD)
/-- a branch, and what follows it -/
def ExT (F : Fm) (a rest : List Stmt) (Γ : List En) (o : Out) : Prop := (o.leaves ∧ ExB F a Γ o) ∨ ∃ Γ1, ExB F a Γ (.nx Γ1) ∧ ExB F rest Γ1 o
theorem xt_out {a rest : List Stmt} {o : Out} (h : ExB F a Γ o) (hl : o.leaves := by trivial) : ExT F a rest Γ o := .inl ⟨hl, h⟩
theorem xt_on {a rest : List Stmt} {Γ1 : List En} {o : Out} (h : ExB F a Γ (.nx Γ1)) (h2 : ExB F rest Γ1 o) : ExT F a rest Γ o := .inr ⟨Γ1, h, h2⟩
theorem xt_skip {rest : List Stmt} {o : Out} (h2 : ExB F rest Γ o) : ExT F [] rest Γ o := .inr ⟨Γ, ex_nil, h2⟩
theorem ext_run {a rest : List Stmt} {o : Out} (h : ExT F a rest Γ o) (T0 T : Hs) (σ : St) (ok : EnvOk F.K T0 T σ Γ) (D : Ends) (hD : OutOk F.K T0 T D o) : wpB F a { D with nx := wpB F rest D } σ T.H := by
  rcases h with ⟨hl, h⟩ | ⟨Γ1, h, h2⟩
  · refine h T0 T σ ok _ ?_
    cases o with
    | nx _ => exact hl.elim
    | rt b d => exact hD
    | bk _ => exact hD
    | ct _ => exact hD
  · exact h T0 T σ ok { D with nx := wpB F rest D } fun T1 σ1 ok1 m1 => h2 T0 T1 σ1 ok1 D (outok_pre m1 hD)
theorem ex_if {c : Expr} {a b rest : List Stmt} {pos : Pos} {k : Bool} {o : Out} (h : TsP F c Γ k) (h1 : k = true → ExT F a rest Γ o) (h2 : k = false → ExT F b rest Γ o) : ExB F (.If c a b pos :: rest) Γ o := fun T0 T σ ok D hD =>
  wpB_of (fun _ => tSeq (tIfS (wpT F c) (wpB F a) (wpB F b)) (wpB F rest)) (fun p => pss_cons (ps_if (pt_wp p) (pss_wp p) (pss_wp p)) (pss_wp p)) fun _ => h T0 T σ ok _ fun T1 s1 => by
    cases k with
    | true => rw [if_pos rfl]; exact ext_run (h1 rfl) T0 T1 σ (ok.stp s1) D (outok_pre s1.mon hD)
    | false => rw [if_neg Bool.false_ne_true]; exact ext_run (h2 rfl) T0 T1 σ (ok.stp s1) D (outok_pre s1.mon hD)

/-! ### for -/
inductive Lp (F : Fm) (tg : Expr) (body : List Stmt) (b : Bool) : List En → List PyData → Out → Prop
  | nil {Γ : List En} : Lp F tg body b Γ [] (.nx Γ)
  | next {Γ Γ1 Γ2 : List En} {d : PyData} {ds : List PyData} {vs : List Nat} {o : Out} : TgP F tg Γ b d vs Γ1 → ExB F body Γ1 (.nx Γ2) → Lp F tg body b Γ2 ds o → Lp F tg body b Γ (d :: ds) o
  | cont {Γ Γ1 Γ2 : List En} {d : PyData} {ds : List PyData} {vs : List Nat} {o : Out} : TgP F tg Γ b d vs Γ1 → ExB F body Γ1 (.ct Γ2) → Lp F tg body b Γ2 ds o → Lp F tg body b Γ (d :: ds) o
  | brk {Γ Γ1 Γ2 : List En} {d : PyData} {ds : List PyData} {vs : List Nat} : TgP F tg Γ b d vs Γ1 → ExB F body Γ1 (.bk Γ2) → Lp F tg body b Γ (d :: ds) (.nx Γ2)
  | ret {Γ Γ1 : List En} {d : PyData} {ds : List PyData} {vs : List Nat} {c : Bool} {x : PyData} : TgP F tg Γ b d vs Γ1 → ExB F body Γ1 (.rt c x) → Lp F tg body b Γ (d :: ds) (.rt c x)
  | weak {Γ Γ1 : List En} {ds : List PyData} {o : Out} : EnvLe Γ Γ1 → Lp F tg body b Γ1 ds o → Lp F tg body b Γ ds o
/-- one turn's ends -/
theorem lp_cons {tg : Expr} {body : List Stmt} {b : Bool} {d : PyData} {ds : List PyData} {o : Out} (h : Lp F tg body b Γ (d :: ds) o) :
    ∃ Γ0 vs Γ1, EnvLe Γ Γ0 ∧ TgP F tg Γ0 b d vs Γ1 ∧ ((∃ Γ2, ExB F body Γ1 (.nx Γ2) ∧ Lp F tg body b Γ2 ds o) ∨ (∃ Γ2, ExB F body Γ1 (.ct Γ2) ∧ Lp F tg body b Γ2 ds o) ∨ (∃ Γ2, ExB F body Γ1 (.bk Γ2) ∧ o = .nx Γ2) ∨ ∃ c x, ExB F body Γ1 (.rt c x) ∧ o = .rt c x) := by
  generalize e : d :: ds = l at h
  induction h with
  | nil => cases e
  | next h1 h2 h3 => cases e; exact ⟨_, _, _, .refl _, h1, .inl ⟨_, h2, h3⟩⟩
  | cont h1 h2 h3 => cases e; exact ⟨_, _, _, .refl _, h1, .inr (.inl ⟨_, h2, h3⟩)⟩
  | brk h1 h2 => cases e; exact ⟨_, _, _, .refl _, h1, .inr (.inr (.inl ⟨_, h2, rfl⟩))⟩
  | ret h1 h2 => cases e; exact ⟨_, _, _, .refl _, h1, .inr (.inr (.inr ⟨_, _, h2, rfl⟩))⟩
  | weak l1 _ ih =>
    obtain ⟨Γ0, vs, Γ1, l, r⟩ := ih e
    exact ⟨Γ0, vs, Γ1, l1.trans l, r⟩
theorem lp_nil {tg : Expr} {body : List Stmt} {b : Bool} {o : Out} (h : Lp F tg body b Γ [] o) : ∃ Γ', o = .nx Γ' ∧ EnvLe Γ Γ' := by
  generalize e : ([] : List PyData) = l at h
  induction h with
  | nil => exact ⟨_, rfl, .refl _⟩
  | next => cases e
  | cont => cases e
  | brk => cases e
  | ret => cases e
  | weak l1 _ ih =>
    obtain ⟨Γ', e', l⟩ := ih e
    exact ⟨Γ', e', l1.trans l⟩
theorem es_for {tg iter : Expr} {body : List Stmt} {pos : Pos} {b : Bool} {ds : List PyData} {o : Out} (hi : ItP F tg iter Γ b ds) (hl : Lp F tg body b Γ ds o) (hs : ∀ p x, foldedSetIterable iter (F.X p).env x = pure x := by intro _ _; rfl) : ExS F (.For tg iter body [] pos) Γ o := fun T0 T σ ok D hD =>
  wpS_of (fun _ => tFor (wpI F tg iter) (wpG F tg) (wpB F body)) (fun p => ps_for (by rw [F.hx p]; exact PassesOwn.never) (F.hc p) (pi_wp p) (pg_wp p) (pss_wp p) (hs p)) fun _ => hi T0 T σ ok _ fun J T1 s1 Y hz => by
    refine ⟨fun i m σ H => m = ds.length - i ∧ i ≤ ds.length ∧ ∃ Ti Γi, H = Ti.H ∧ EnvOk F.K T0 Ti σ Γi ∧ Mon T1 Ti ∧ Lp F tg body b Γi (ds.drop i) o,
      ⟨ds.length, by simp, Nat.zero_le _, T1, Γ, rfl, ok.stp s1, .refl _, hl⟩, fun i m σ H hW => ?_⟩
    obtain ⟨rfl, hi, Ti, Γi, rfl, oki, mi, hlp⟩ := hW
    have pre : OutOk F.K T0 Ti D o := outok_pre (s1.mon.trans mi) hD
    by_cases hlt : i < ds.length
    · obtain ⟨d, hd⟩ : ∃ d, ds[i]? = some d := ⟨ds[i], List.getElem?_eq_getElem hlt⟩
      have hdr : ds.drop i = d :: ds.drop (i + 1) := by
        rw [List.drop_eq_getElem_cons hlt]
        rw [List.getElem?_eq_getElem hlt] at hd
        rw [Option.some.inj hd]
      rw [hdr] at hlp
      obtain ⟨g1, g2⟩ := Y.go Ti i d oki.ok mi.f mi.g hd
      refine .inr ⟨g1, fun σ' H' => ∃ Tj Γj, H' = Tj.H ∧ EnvOk F.K T0 Tj σ' Γj ∧ Mon T1 Tj ∧ Lp F tg body b Γj (ds.drop (i + 1)) o, fun σ' H' q => ⟨ds.length - (i + 1), by omega, rfl, hlt, q⟩, fun x H' y => ?_⟩
      obtain ⟨T2, s2, rfl, hx⟩ := g2 x H' y
      obtain ⟨Γ0, vs, Γ1, l0, ht, hend⟩ := lp_cons hlp
      refine ht T0 T2 σ x ((oki.stp s2).weak l0) hx _ fun σ2 ok2 _ => ?_
      have m2 : Mon T1 T2 := mi.trans s2.mon
      have pre2 : OutOk F.K T0 T2 D o := outok_pre s2.mon pre
      rcases hend with ⟨Γ2, hb, hr⟩ | ⟨Γ2, hb, hr⟩ | ⟨Γ2, hb, rfl⟩ | ⟨c, x', hb, rfl⟩
      · exact hb T0 T2 σ2 ok2 _ fun T3 σ3 ok3 m3 => ⟨T3, Γ2, rfl, ok3, m2.trans m3, hr⟩
      · exact hb T0 T2 σ2 ok2 _ fun T3 σ3 ok3 m3 => ⟨T3, Γ2, rfl, ok3, m2.trans m3, hr⟩
      · exact hb T0 T2 σ2 ok2 _ fun T3 σ3 ok3 m3 => pre2 T3 σ3 ok3 m3
      · exact hb T0 T2 σ2 ok2 _ fun T3 v s3 q3 => pre2 T3 v s3 q3
    · have e : i = ds.length := by omega
      subst e
      rw [List.drop_length] at hlp
      obtain ⟨Γ', rfl, l⟩ := lp_nil hlp
      exact .inl ⟨Y.stop Ti _ oki.ok mi.f mi.g (Nat.le_refl _), pre Ti σ (oki.weak l) (.refl _)⟩

/-! ### while -/
inductive Wh (F : Fm) (c : Expr) (body : List Stmt) : Nat → List En → Out → Prop
  | stop {n : Nat} {Γ : List En} : TsP F c Γ false → Wh F c body n Γ (.nx Γ)
  | next {n : Nat} {Γ Γ1 : List En} {o : Out} : TsP F c Γ true → ExB F body Γ (.nx Γ1) → Wh F c body n Γ1 o → Wh F c body (n + 1) Γ o
  | brk {n : Nat} {Γ Γ1 : List En} : TsP F c Γ true → ExB F body Γ (.bk Γ1) → Wh F c body n Γ (.nx Γ1)
  | ret {n : Nat} {Γ : List En} {b : Bool} {x : PyData} : TsP F c Γ true → ExB F body Γ (.rt b x) → Wh F c body n Γ (.rt b x)
theorem es_while {c : Expr} {body : List Stmt} {pos : Pos} {n : Nat} {o : Out} (h : Wh F c body n Γ o) : ExS F (.While c body [] pos) Γ o := fun T0 T σ ok D hD =>
  wpS_of (fun _ => tWhile (wpT F c) (wpB F body)) (fun p => ps_while (by rw [F.hx p]; exact PassesOwn.never) (pt_wp p) (pss_wp p)) fun _ => by
    refine ⟨fun m σ H => ∃ Ti Γi, H = Ti.H ∧ EnvOk F.K T0 Ti σ Γi ∧ Mon T Ti ∧ Wh F c body m Γi o, ⟨n, T, Γ, rfl, ok, .refl _, h⟩, fun m σ H hW => ?_⟩
    obtain ⟨Ti, Γi, rfl, oki, mi, hw⟩ := hW
    have pre : OutOk F.K T0 Ti D o := outok_pre mi hD
    cases hw with
    | stop ht =>
      refine ht T0 Ti σ oki _ fun T1 s1 => ?_
      rw [if_neg Bool.false_ne_true]
      exact pre T1 σ (oki.stp s1) s1.mon
    | @next m _ Γ1 _ ht hb hr =>
      refine ht T0 Ti σ oki _ fun T1 s1 => ?_
      rw [if_pos rfl]
      refine ⟨fun σ' H' => ∃ Tj, H' = Tj.H ∧ EnvOk F.K T0 Tj σ' Γ1 ∧ Mon T Tj, fun σ' H' ⟨Tj, e, okj, mj⟩ => ⟨m, Nat.lt_succ_self _, Tj, Γ1, e, okj, mj, hr⟩, ?_⟩
      exact hb T0 T1 σ (oki.stp s1) _ fun T2 σ2 ok2 m2 => ⟨T2, rfl, ok2, mi.trans (s1.mon.trans m2)⟩
    | brk ht hb =>
      refine ht T0 Ti σ oki _ fun T1 s1 => ?_
      rw [if_pos rfl]
      refine ⟨fun _ _ => False, fun σ' H' z => z.elim, ?_⟩
      exact hb T0 T1 σ (oki.stp s1) _ fun T2 σ2 ok2 m2 => pre T2 σ2 ok2 (s1.mon.trans m2)
    | ret ht hb =>
      refine ht T0 Ti σ oki _ fun T1 s1 => ?_
      rw [if_pos rfl]
      refine ⟨fun _ _ => False, fun σ' H' z => z.elim, ?_⟩
      exact hb T0 T1 σ (oki.stp s1) _ fun T2 v s2 q2 => pre T2 v s2 q2

/-! ### lists that grow -/
theorem ea1 {K : PySem.W.Frag} {T : Hs} {vs : List V} {b : Bool} {d : PyData} (h : AtA K T vs [(b, d)]) : ∃ v, vs = [v] ∧ Dp K (T.lv b) v d := by
  match vs, h with
  | [v], h => exact ⟨v, rfl, h.1⟩
/-- the list at slot i is changed -/
theorem EnvOk.grow {K : PySem.W.Frag} {T0 T : Hs} {σ : St} {Γ : List En} {b : Bool} {xs ys : List PyData} {l : Addr} {vs us : List V} (ok : EnvOk K T0 T σ Γ) (i : Nat) (hΓ : Γ[i]? = some (.o b xs)) (hl : σ[i]? = some (some (.ref l))) (hv : T.H l = some (.lst vs)) (hu : DpAll K (T.lv b) us ys) (hz : us.length ≤ sizeLine) :
    EnvOk K T0 ⟨T.F, T.G, upd T.H l (.lst us)⟩ σ (Γ.set i (.o b ys)) := by
  obtain ⟨l', vs', e1, e2, e3, e4, e5⟩ := ok.has i _ hΓ
  rw [hl] at e1; cases e1
  have w : EnvOk K T0 T σ (Γ.set i .no) := by
    have := ok.drop (u := some (.ref l)) i
    have es : σ.set i (some (V.ref l)) = σ := by
      apply List.ext_getElem?
      intro j
      rw [List.getElem?_set]
      split
      · rename_i hj
        subst hj
        split
        · exact hl.symm
        · rename_i hlt
          rw [List.getElem?_eq_none (by omega)] at hl; cases hl
      · rfl
    rw [es] at this
    exact this
  obtain ⟨Rs, wk⟩ := ok.rg
  have es0 : σ.set i (some (V.ref l)) = σ := by
    apply List.ext_getElem?
    intro j
    rw [List.getElem?_set]
    split
    · rename_i hj
      subst hj
      split
      · exact hl.symm
      · rename_i hlt
        rw [List.getElem?_eq_none (by omega)] at hl; cases hl
    · rfl
  have wk0 : WOk K T0 T σ (Γ.set i .no) Rs := by
    have := wk.set (i := i) (u := some (.ref l)) (e := .no) (fun _ z => by cases z) fun _ _ z => by cases z
    rw [es0] at this
    exact this
  have wn : ∀ j k, (Γ.set i En.no)[j]? = some (.w k) → Rs j l = none := fun j k q => wk.wo j i k b xs l (set_w (e := .no) (fun _ z => by cases z) q).2 hΓ hl
  have g := w.hid (ys := us) e2 e3 hv hz (fun j c zs q z => by
    by_cases hj : i = j
    · subst hj
      rw [List.getElem?_set] at q
      split at q
      · split at q <;> cases q
      · exact absurd rfl ‹_›
    · rw [List.getElem?_set_ne hj] at q
      exact ok.ne i j _ _ _ _ hj hΓ q (by rw [hl, z])) ⟨Rs, wk0, wn⟩
  have wk1 : WOk K T0 ⟨T.F, T.G, upd T.H l (.lst us)⟩ σ (Γ.set i .no) Rs := ⟨fun j k q => ⟨(wk0.w j k q).1, fun a x e => by
    show upd T.H l (.lst us) a = some x
    rw [upd_ne (ne_of_none e (wn j k q))]
    exact (wk0.w j k q).2.h a x e, (wk0.w j k q).2.n⟩, wk0.ww, wk0.wo⟩
  have s := g.setO (l := l) (b := b) (vs := us) (xs := ys) i e2 e3 upd_same (by cases b <;> exact hu) (fun j c zs q z => by
    by_cases hj : i = j
    · subst hj
      rw [List.getElem?_set] at q
      split at q
      · split at q <;> cases q
      · exact absurd rfl ‹_›
    · rw [List.getElem?_set_ne hj] at q
      exact ok.ne i j _ _ _ _ hj hΓ q (by rw [hl, z])) ⟨Rs, wk1, wn⟩
  have es : σ.set i (some (V.ref l)) = σ := by
    apply List.ext_getElem?
    intro j
    rw [List.getElem?_set]
    split
    · rename_i hj
      subst hj
      split
      · exact hl.symm
      · rename_i hlt
        rw [List.getElem?_eq_none (by omega)] at hl; cases hl
    · rfl
  rw [es, List.set_set] at s
  exact s
theorem es_append {x : Str} {e : Expr} {pn apos cpos pos : Pos} {b : Bool} {xs : List PyData} {d : PyData} (i : Nat) (hΓ : Γ[i]? = some (.o b xs)) (h : EvP F e Γ b d) (hz : xs.length < sizeLine) (hi : F.N[i]? = some x := by rfl)
    (hv : ∀ p, Vis (F.X p).env.scope x := by intro _; first | exact Or.inl rfl | exact Or.inr (Or.inl rfl) | exact Or.inr (Or.inr rfl))
    (hd : (x == ("__debug__" : Str)) = false := by decide) (hcd : (x == ("__classdict__" : Str)) = false := by decide)
    (hbase : ∀ p, attributeBase (.Name x pn) "append" (F.X p).env (eval (.Name x pn) (F.X p).env) = eval (.Name x pn) (F.X p).env := by intro _; rfl)
    (hfew : ∀ p, ((backTo cpos (starEach [e] (F.X p).env)).all (fun x => !x.1) && (backToKw cpos (keywordEach [] (F.X p).env)).all (fun x => x.1.isSome) && decide ([e].length + ([] : List Keyword).length + (if ([] : List Keyword).isEmpty then 0 else 1) < 30)) = true := by intro _; rfl)
    (hline : (apos.endLine == cpos.line) = true := by rfl) (hs : ∀ p, starEach [e] (F.X p).env = (false, eval e (F.X p).env) :: starEach [] (F.X p).env := by intro _; rfl) (hplain : ∀ p, (backTo cpos (starEach [] (F.X p).env)).any (·.1) = false := by intro _; rfl)
    (hsw : ∀ p, swapsWith (.Call (.Attribute (.Name x pn) "append" apos) [e] [] cpos) none pos.line (F.X p).env = pure false := by intro _; rfl) :
    ExS F (.Expr (.Call (.Attribute (.Name x pn) "append" apos) [e] [] cpos) pos) Γ (.nx (Γ.set i (.o b (xs ++ [d])))) := fun T0 T σ ok D hD =>
  wpS_of (fun p => tDrop (tBM (F.X p).K "list" rAppend (tVar i) (tCons (wpE F e) tNil))) (fun p => ps_expr (pe_bm PySem.F.plainAttrs_list PySem.F.slot_list_append PySem.F.type_list_append mt_append (pe_var (by rw [F.hN p]; exact hi) (hv p) hd hcd) (pa_cons (pe_wp p) pa_nil (hs p)) (hbase p) (hfew p) hline (hs p) (hplain p)) (hsw p)) fun p => by
    obtain ⟨l, vs, e1, e2, e3, e4, e5⟩ := ok.has i _ hΓ
    refine ⟨.ref l, e1, .inl ⟨rfl, vs, .of e4⟩, h T0 T σ ok _ fun v T1 s1 q1 => ?_⟩
    have hl : vs.length = xs.length := dpa_len e5
    refine ⟨l, vs, v, rfl, rfl, s1.h _ _ e4, by omega, ?_⟩
    exact hD ⟨T1.F, T1.G, upd T1.H l (.lst (vs ++ [v]))⟩ σ ((ok.stp s1).grow i hΓ e1 (s1.h _ _ e4) (dpa_app (upA e5 (s1.l b)) (.cons q1 .nil)) (by rw [List.length_append]; simp; omega)) ⟨s1.f, s1.g⟩
theorem es_extend {x : Str} {e : Expr} {pn apos cpos pos : Pos} {b : Bool} {xs ys : List PyData} (i : Nat) (hΓ : Γ[i]? = some (.o b xs)) (h : EvN F e Γ b ys) (hz : xs.length + ys.length ≤ sizeLine) (hi : F.N[i]? = some x := by rfl)
    (hv : ∀ p, Vis (F.X p).env.scope x := by intro _; first | exact Or.inl rfl | exact Or.inr (Or.inl rfl) | exact Or.inr (Or.inr rfl))
    (hd : (x == ("__debug__" : Str)) = false := by decide) (hcd : (x == ("__classdict__" : Str)) = false := by decide)
    (hbase : ∀ p, attributeBase (.Name x pn) "extend" (F.X p).env (eval (.Name x pn) (F.X p).env) = eval (.Name x pn) (F.X p).env := by intro _; rfl)
    (hfew : ∀ p, ((backTo cpos (starEach [e] (F.X p).env)).all (fun x => !x.1) && (backToKw cpos (keywordEach [] (F.X p).env)).all (fun x => x.1.isSome) && decide ([e].length + ([] : List Keyword).length + (if ([] : List Keyword).isEmpty then 0 else 1) < 30)) = true := by intro _; rfl)
    (hline : (apos.endLine == cpos.line) = true := by rfl) (hs : ∀ p, starEach [e] (F.X p).env = (false, eval e (F.X p).env) :: starEach [] (F.X p).env := by intro _; rfl) (hplain : ∀ p, (backTo cpos (starEach [] (F.X p).env)).any (·.1) = false := by intro _; rfl)
    (hsw : ∀ p, swapsWith (.Call (.Attribute (.Name x pn) "extend" apos) [e] [] cpos) none pos.line (F.X p).env = pure false := by intro _; rfl) :
    ExS F (.Expr (.Call (.Attribute (.Name x pn) "extend" apos) [e] [] cpos) pos) Γ (.nx (Γ.set i (.o b (xs ++ ys)))) := fun T0 T σ ok D hD =>
  wpS_of (fun p => tDrop (tBM (F.X p).K "list" rExtend (tVar i) (tCons (wpE F e) tNil))) (fun p => ps_expr (pe_bm PySem.F.plainAttrs_list PySem.F.slot_list_extend PySem.F.type_list_extend mt_extend (pe_var (by rw [F.hN p]; exact hi) (hv p) hd hcd) (pa_cons (pe_wp p) pa_nil (hs p)) (hbase p) (hfew p) hline (hs p) (hplain p)) (hsw p)) fun p => by
    obtain ⟨l, vs, e1, e2, e3, e4, e5⟩ := ok.has i _ hΓ
    refine ⟨.ref l, e1, .inl ⟨rfl, vs, .of e4⟩, h T0 T σ ok _ fun m us T1 s1 n g q a => ?_⟩
    have hl : vs.length = xs.length := dpa_len e5
    have hl2 : us.length = ys.length := dpa_len a
    refine ⟨l, m, vs, us, rfl, rfl, s1.h _ _ e4, q, by omega, ?_⟩
    exact hD ⟨T1.F, T1.G, upd T1.H l (.lst (vs ++ us))⟩ σ ((ok.stp s1).grow i hΓ e1 (s1.h _ _ e4) (dpa_app (upA e5 (s1.l b)) a) (by rw [List.length_append]; omega)) ⟨s1.f, s1.g⟩
end
end T2
end
section
set_option Elab.async false
set_option linter.all false
set_option autoImplicit false
set_option maxRecDepth 100000
namespace T2
open PySem PySem.Spec L2
open PyProof.Rows hiding St

/-- what a name holds behind a store of v, which came from T to T' -/
def EnNew (K : PySem.W.Frag) (T T' : Hs) (v : V) : En → Prop
  | .no => True
  | .d b x => Dp K (T'.lv b) v x
  | .o b xs => ∃ l vs, v = .ref l ∧ T.H l = none ∧ T'.G l = none ∧ T'.H l = some (.lst vs) ∧ DpAll K (T'.lv b) vs xs
  | .w k => ∃ R, k.P K v R ∧ Same R T'.H ∧ ∀ a o, R a = some o → isTupO o = false → T.H a = none ∧ T'.G a = none
section
variable {K : PySem.W.Frag} {T0 T T1 T2 : Hs} {σ : St} {Γ : List En}
theorem EnNew.stp {v : V} {e : En} (h : EnNew K T T1 v e) (s : Stp T1 T2) : EnNew K T T2 v e := by
  cases e with
  | no => trivial
  | d b x => exact up h (s.l b)
  | o b xs =>
    obtain ⟨l, vs, e1, e2, e3, e4, e5⟩ := h
    exact ⟨l, vs, e1, e2, (s.ng l (by rw [e4]; simp)).trans e3, s.h _ _ e4, upA e5 (s.l b)⟩
  | w k =>
    obtain ⟨R, e1, e2, e3⟩ := h
    exact ⟨R, e1, e2.trans s.h, fun a o e t => ⟨(e3 a o e t).1, (s.ng a (by rw [e2 a o e]; simp)).trans (e3 a o e t).2⟩⟩
/-- a new thing of one's own -/
theorem EnvOk.newW {v : V} {k : Wk} {R : Hp} (ok : EnvOk K T0 T σ Γ) (s : Stp T T1) (hP : k.P K v R) (hs : Same R T1.H) (hn : ∀ a o, R a = some o → isTupO o = false → T.H a = none ∧ T1.G a = none) (i : Nat) : EnvOk K T0 T1 (σ.set i (some v)) (Γ.set i (.w k)) := by
  have ok1 := ok.stp s
  have b := ok1.drop (u := some v) i
  have none_of : ∀ {a : Addr} {o : HO}, T.H a = some o → isTupO o = false → R a = none := fun {a o} e t => by
    cases q : R a with
    | none => rfl
    | some o' =>
      exfalso
      cases t' : isTupO o' with
      | false => have := (hn a o' q t').1; rw [e] at this; cases this
      | true =>
        have h1 := s.h a o e
        rw [hs a o' q] at h1
        cases h1
        rw [t] at t'; cases t'
  refine ⟨ok1.st, by rw [List.length_set, List.length_set]; exact ok1.len, fun j e q => ?_, fun j m c xs c' ys hjm q q' => ?_, ?_⟩
  · by_cases hj : i = j
    · subst hj
      rw [List.getElem?_set] at q
      split at q
      · split at q
        · cases q; trivial
        · cases q
      · exact absurd rfl ‹_›
    · have q0 : (Γ.set i En.no)[j]? = some e := by rw [List.getElem?_set_ne hj] at q ⊢; exact q
      exact b.has j e q0
  · have h1 := (set_o (e := .w k) (fun _ _ z => by cases z) q)
    have h2 := (set_o (e := .w k) (fun _ _ z => by cases z) q')
    rw [List.getElem?_set_ne (Ne.symm h1.1), List.getElem?_set_ne (Ne.symm h2.1)]
    exact ok1.ne _ _ _ _ _ _ hjm h1.2 h2.2
  · obtain ⟨Rs, w⟩ := ok.rg
    have lt : ∀ {j : Nat} {k' : Wk}, (Γ.set i (En.w k))[j]? = some (.w k') → j ≠ i → Γ[j]? = some (.w k') := fun q n => by rw [List.getElem?_set_ne (Ne.symm n)] at q; exact q
    refine ⟨fun j => if j = i then R else Rs j, fun j k' q => ?_, fun j m k1 k2 hjm q q' a o e t => ?_, fun j m k' c ys l q q' z => ?_⟩
    · by_cases hj : j = i
      · subst hj
        rw [if_pos rfl]
        rw [List.getElem?_set] at q
        split at q
        · split at q
          · cases q
            refine ⟨⟨v, ?_, hP⟩, hs, fun a o e t => ⟨ok.st.h.free (hn a o e t).1, (hn a o e t).2⟩⟩
            rw [List.getElem?_set, if_pos rfl, if_pos (by rw [ok.len]; assumption)]
          · cases q
        · exact absurd rfl ‹_›
      · rw [if_neg hj, List.getElem?_set_ne (Ne.symm hj)]
        exact ⟨(w.w j k' (lt q hj)).1, (w.w j k' (lt q hj)).2.stp s⟩
    · by_cases hj : j = i
      · have hm : m ≠ i := fun z => hjm (hj.trans z.symm)
        simp only [if_pos hj] at e
        simp only [if_neg hm]
        exact (w.w m k2 (lt q' hm)).2.h.free (hn a o e t).1
      · simp only [if_neg hj] at e
        by_cases hm : m = i
        · simp only [if_pos hm]
          exact none_of ((w.w j k1 (lt q hj)).2.h a o e) t
        · simp only [if_neg hm]
          exact w.ww j m k1 k2 hjm (lt q hj) (lt q' hm) a o e t
    · have h2 := (set_o (e := .w k) (fun _ _ z => by cases z) q')
      rw [List.getElem?_set_ne (Ne.symm h2.1)] at z
      by_cases hj : j = i
      · simp only [if_pos hj]
        obtain ⟨l', vs, e1, _, _, e4, _⟩ := ok.has m _ h2.2
        rw [z] at e1; cases e1
        exact none_of e4 rfl
      · simp only [if_neg hj]
        exact w.wo j m k' c ys l (lt q hj) h2.2 z
theorem EnvOk.newX {v : V} {e : En} (ok : EnvOk K T0 T σ Γ) (s : Stp T T1) (h : EnNew K T T1 v e) (i : Nat) : EnvOk K T0 T1 (σ.set i (some v)) (Γ.set i e) := by
  cases e with
  | no => exact (ok.stp s).drop i
  | d b x => exact (ok.stp s).set i h
  | o b xs =>
    obtain ⟨l, vs, rfl, e2, e3, e4, e5⟩ := h
    exact ok.newO s e2 e3 e4 e5 i
  | w k =>
    obtain ⟨R, e1, e2, e3⟩ := h
    exact ok.newW s e1 e2 e3 i
end
def EvX (F : Fm) (e : Expr) (Γ : List En) (en : En) : Prop :=
  ∀ (T0 T : Hs) (σ : St), EnvOk F.K T0 T σ Γ → ∀ Q : VK, (∀ v T', Stp T T' → EnNew F.K T T' v en → Q v T'.H) → wpE F e σ T.H Q
section
variable {F : Fm} {Γ : List En}
theorem ex_p {e : Expr} {b : Bool} {d : PyData} (h : EvP F e Γ b d) : EvX F e Γ (.d b d) := h
theorem ex_n {e : Expr} {b : Bool} {xs : List PyData} (h : EvN F e Γ b xs) : EvX F e Γ (.o b xs) := fun T0 T σ ok Q hQ => h T0 T σ ok Q fun l vs T' s n g q a => hQ (.ref l) T' s ⟨l, vs, rfl, n, g, q, a⟩
theorem es_par {x y : Str} {a b : Expr} {px py pt pos pt2 : Pos} {kt k2 : Nat} {e1 e2 : En} (i j : Nat) (ha : EvX F a Γ e1) (hb : EvX F b Γ e2) (hij : i ≠ j := by decide) (hi : F.N[i]? = some x := by rfl) (hj : F.N[j]? = some y := by rfl)
    (hx : ∀ p, (F.X p).env.scope.names.lookup x = some .local := by intro _; rfl) (hy : ∀ p, (F.X p).env.scope.names.lookup y = some .local := by intro _; rfl)
    (hs1 : ∀ p, starEach [a, b] (F.X p).env = (false, eval a (F.X p).env) :: starEach [b] (F.X p).env := by intro _; rfl) (hs2 : ∀ p, starEach [b] (F.X p).env = (false, eval b (F.X p).env) :: starEach [] (F.X p).env := by intro _; rfl)
    (hw : ∀ p, swappedStores [.Tuple [.Name x px, .Name y py] kt pt] (.Tuple [a, b] k2 pt2) (F.X p).env = pure (some [x, y]) := by intro _; rfl)
    (hs : ∀ p, swapsWithSole [.Tuple [.Name x px, .Name y py] kt pt] (.Tuple [a, b] k2 pt2) pos.line (F.X p).env = pure false := by intro _; rfl) :
    ExS F (.Assign [.Tuple [.Name x px, .Name y py] kt pt] (.Tuple [a, b] k2 pt2) pos) Γ (.nx ((Γ.set i e1).set j e2)) := fun T0 T σ ok D hD =>
  wpS_of (fun _ => tPar i j (tCons (wpE F a) (tCons (wpE F b) tNil))) (fun p => ps_par (F.hc p) (by rw [F.hN p]; exact F.nd) (by rw [F.hN p]; exact hi) (by rw [F.hN p]; exact hj) hij (hx p) (hy p) (pa_cons (pe_wp p) (pa_cons (pe_wp p) pa_nil (hs2 p)) (hs1 p)) (hw p) (hs p)) fun _ =>
    ha T0 T σ ok _ fun v T1 s1 q1 => hb T0 T1 σ (ok.stp s1) _ fun w T2 s2 q2 => ⟨v, w, rfl, hD T2 _ ((ok.newX s1 q1 i).newX s2 q2 j) (s1.trans s2).mon⟩
/-- .. where a name is captured: by a tuple -/
theorem es_parG {x y : Str} {a b : Expr} {px py pt pos pt2 : Pos} {kt k2 : Nat} {e1 e2 : En} (i j : Nat) (ha : EvX F a Γ e1) (hb : EvX F b Γ e2) (hi : F.N[i]? = some x := by rfl) (hj : F.N[j]? = some y := by rfl)
    (hx : ∀ p, Loc (F.X p).env.scope x := by intro _; first | exact Or.inl rfl | exact Or.inr rfl) (hy : ∀ p, Loc (F.X p).env.scope y := by intro _; first | exact Or.inl rfl | exact Or.inr rfl)
    (hfx : ∀ p, (F.X p).fn x = true ∨ (F.X p).env.scope.names.lookup x = some .local := by intro _; first | exact .inl rfl | exact .inr rfl) (hfy : ∀ p, (F.X p).fn y = true ∨ (F.X p).env.scope.names.lookup y = some .local := by intro _; first | exact .inl rfl | exact .inr rfl)
    (hs1 : ∀ p, starEach [a, b] (F.X p).env = (false, eval a (F.X p).env) :: starEach [b] (F.X p).env := by intro _; rfl) (hs2 : ∀ p, starEach [b] (F.X p).env = (false, eval b (F.X p).env) :: starEach [] (F.X p).env := by intro _; rfl)
    (hw : ∀ p, swappedStores [.Tuple [.Name x px, .Name y py] kt pt] (.Tuple [a, b] k2 pt2) (F.X p).env = pure none := by intro _; rfl)
    (hs : ∀ p, swapsWithSole [.Tuple [.Name x px, .Name y py] kt pt] (.Tuple [a, b] k2 pt2) pos.line (F.X p).env = pure false := by intro _; rfl)
    (h1 : ∀ p, (assignEach [.Tuple [.Name x px, .Name y py] kt pt] (F.X p).env).map (·.2) = [assign (.Tuple [.Name x px, .Name y py] kt pt) (F.X p).env] := by intro _; rfl)
    (hn : ∀ p, (assignEach [.Name x px, .Name y py] (F.X p).env).length = 2 := by intro _; rfl) (hst : ∀ p, (assignEach [.Name x px, .Name y py] (F.X p).env).findIdx? (·.1) = none := by intro _; rfl)
    (g1 : ∀ p, (assignEach [.Name x px, .Name y py] (F.X p).env).map (·.2) = assign (.Name x px) (F.X p).env :: (assignEach [.Name y py] (F.X p).env).map (·.2) := by intro _; rfl)
    (g2 : ∀ p, (assignEach [.Name y py] (F.X p).env).map (·.2) = assign (.Name y py) (F.X p).env :: (assignEach [] (F.X p).env).map (·.2) := by intro _; rfl) :
    ExS F (.Assign [.Tuple [.Name x px, .Name y py] kt pt] (.Tuple [a, b] k2 pt2) pos) Γ (.nx ((Γ.set i e1).set j e2)) := fun T0 T σ ok D hD =>
  wpS_of (fun p => tAsg (tTup (tCons (wpE F a) (tCons (wpE F b) tNil))) (gTup (F.X p).K 2 (gCons (gName i) (gCons (gName j) gNil))))
    (fun p => ps_asg (pe_tup (pa_cons (pe_wp p) (pa_cons (pe_wp p) pa_nil (hs2 p)) (hs1 p))) (pg_tup (F.hc p) (pgs_cons (pg_name (by rw [F.hN p]; exact F.nd) (by rw [F.hN p]; exact hi) (hx p) (hfx p)) (pgs_cons (pg_name (by rw [F.hN p]; exact F.nd) (by rw [F.hN p]; exact hj) (hy p) (hfy p)) pgs_nil (g2 p)) (g1 p)) (hn p) (hst p)) (hs p) (hw p) (h1 p)) fun p =>
    ha T0 T σ ok _ fun v T1 s1 q1 => hb T0 T1 σ (ok.stp s1) _ fun w T2 s2 q2 => by
      refine ⟨by show 2 ≤ sizeLine; decide, fun q n => ?_⟩
      have s3 := stp_tup s2.ok (xs := [v, w]) n
      refine ⟨q, [v, w], rfl, .of upd_same, rfl, v, [w], rfl, w, [], rfl, rfl, ?_⟩
      exact hD (T2.tup q [v, w]) _ (((ok.newX s1 q1 i).newX s2 q2 j).stp s3) ((s1.trans s2).trans s3).mon
theorem es_par3 {x y z : Str} {a b c : Expr} {px py pz pt pos pt2 : Pos} {kt k2 : Nat} {e1 e2 e3 : En} (i j l : Nat) (ha : EvX F a Γ e1) (hb : EvX F b Γ e2) (hc : EvX F c Γ e3) (hij : i ≠ j := by decide) (hil : i ≠ l := by decide) (hjl : j ≠ l := by decide) (hi : F.N[i]? = some x := by rfl) (hj : F.N[j]? = some y := by rfl) (hl : F.N[l]? = some z := by rfl)
    (hx : ∀ p, (F.X p).env.scope.names.lookup x = some .local := by intro _; rfl) (hy : ∀ p, (F.X p).env.scope.names.lookup y = some .local := by intro _; rfl) (hz : ∀ p, (F.X p).env.scope.names.lookup z = some .local := by intro _; rfl)
    (hs1 : ∀ p, starEach [a, b, c] (F.X p).env = (false, eval a (F.X p).env) :: starEach [b, c] (F.X p).env := by intro _; rfl) (hs2 : ∀ p, starEach [b, c] (F.X p).env = (false, eval b (F.X p).env) :: starEach [c] (F.X p).env := by intro _; rfl) (hs3 : ∀ p, starEach [c] (F.X p).env = (false, eval c (F.X p).env) :: starEach [] (F.X p).env := by intro _; rfl)
    (hw : ∀ p, swappedStores [.Tuple [.Name x px, .Name y py, .Name z pz] kt pt] (.Tuple [a, b, c] k2 pt2) (F.X p).env = pure (some [x, y, z]) := by intro _; rfl)
    (hs : ∀ p, swapsWithSole [.Tuple [.Name x px, .Name y py, .Name z pz] kt pt] (.Tuple [a, b, c] k2 pt2) pos.line (F.X p).env = pure false := by intro _; rfl) :
    ExS F (.Assign [.Tuple [.Name x px, .Name y py, .Name z pz] kt pt] (.Tuple [a, b, c] k2 pt2) pos) Γ (.nx (((Γ.set i e1).set j e2).set l e3)) := fun T0 T σ ok D hD =>
  wpS_of (fun _ => tPar3 i j l (tCons (wpE F a) (tCons (wpE F b) (tCons (wpE F c) tNil)))) (fun p => ps_par3 (F.hc p) (by rw [F.hN p]; exact F.nd) (by rw [F.hN p]; exact hi) (by rw [F.hN p]; exact hj) (by rw [F.hN p]; exact hl) hij hil hjl (hx p) (hy p) (hz p) (pa_cons (pe_wp p) (pa_cons (pe_wp p) (pa_cons (pe_wp p) pa_nil (hs3 p)) (hs2 p)) (hs1 p)) (hw p) (hs p)) fun _ =>
    ha T0 T σ ok _ fun v T1 s1 q1 => hb T0 T1 σ (ok.stp s1) _ fun w T2 s2 q2 => hc T0 T2 σ ((ok.stp s1).stp s2) _ fun u T3 s3 q3 => ⟨v, w, u, rfl, hD T3 _ (((ok.newX s1 q1 i).newX s2 q2 j).newX s3 q3 l) ((s1.trans s2).trans s3).mon⟩
/-- a, b = e -/
theorem es_unp {x : Expr} {e : Expr} {pos : Pos} {b : Bool} {d : PyData} {vs : List Nat} {Γ1 : List En} (h : EvP F e Γ b d) (g : TgP F x Γ b d vs Γ1) (hs : ∀ p, swapsWithSole [x] e pos.line (F.X p).env = pure false := by intro _; rfl) (hw : ∀ p, swappedStores [x] e (F.X p).env = pure none := by intro _; rfl)
    (h1 : ∀ p, (assignEach [x] (F.X p).env).map (·.2) = [assign x (F.X p).env] := by intro _; rfl) : ExS F (.Assign [x] e pos) Γ (.nx Γ1) := fun T0 T σ ok D hD =>
  wpS_of (fun _ => tAsg (wpE F e) (wpG F x)) (fun p => ps_asg (pe_wp p) (pg_wp p) (hs p) (hw p) (h1 p)) fun _ => h T0 T σ ok _ fun v T1 s1 q1 => g T0 T1 σ v (ok.stp s1) q1 _ fun σ' ok' _ => hD T1 σ' ok' s1.mon

/-! ### defs -/
def spD (K : PySem.W.Frag) (R : List (Bool × PyData) → Bool × PyData → Prop) : Sp := fun vs H Q _ => ∃ T as r, T.H = H ∧ T.Ok ∧ R as r ∧ AtA K T vs as ∧ ∀ v T', Stp T T' → Dp K (T'.lv r.1) v r.2 → Q v T'.H
/-- the def that stands under the name x, by at most level k -/
structure FnD (P : Program) (w : World) (K : PySem.W.Frag) (mg : Str → Option Value) (base : Heap) (k : Nat) (x : Str) (R : List (Bool × PyData) → Bool × PyData → Prop) : Prop where
  ex : ∃ f fd ps, FnOk P w K mg base CX0 k f fd ps (spD K R) ∧ mg x = some (.ref f) ∧ PySem.W.keepIn K (.ref f) = true ∧ Binds K fd ps []
theorem ev_call {x : Str} {e : Expr} {es : List Expr} {p pos : Pos} {k : Nat} {R : List (Bool × PyData) → Bool × PyData → Prop} {as : List (Bool × PyData)} {b : Bool} {d : PyData} (c : FnD F.P F.w F.K F.mg F.base k x R) (ha : EvA F (e :: es) Γ as) (hR : R as (b, d)) (hk : k ≤ F.k := by decide)
    (hg : ∀ p, Gl (F.X p) x := by intro _; rfl) (hdb : (x == ("__debug__" : Str)) = false := by decide) (he : ∀ p, starEach (e :: es) (F.X p).env = (false, eval e (F.X p).env) :: starEach es (F.X p).env := by intro _; rfl) (hpl : ∀ p, (backTo pos (starEach es (F.X p).env)).any (·.1) = false := by intro _; rfl) :
    EvP F (.Call (.Name x p) (e :: es) [] pos) Γ b d := fun T0 T σ ok Q hQ => by
  obtain ⟨f, fd, ps, fo, fm, fk, fb⟩ := c.ex
  refine wpE_of (fun _ => tCall (spD F.K R) [] E0 (wpA F (e :: es))) (fun p => ?_) fun _ => ?_
  · have fo' : FnOk (F.X p).prog (F.X p).w (F.X p).K (F.X p).mg (F.X p).base CX0 k f fd ps (spD F.K R) := by rw [F.hP p, F.hw p, F.hK p, F.hm p, F.hb p]; exact fo
    exact pe_call (ds := []) fo' ((F.hr p).mono hk) (hg p) (by rw [F.hm p]; exact fm) (by rw [F.hK p]; exact fk) (by rw [F.hK p]; exact fb) .nil pass0 (pa_wp p) hdb (he p) (hpl p)
  · refine ha T0 T σ ok _ fun vs T1 s1 q1 => ?_
    refine ⟨T1, as, (b, d), rfl, s1.ok, hR, ?_, fun v T' s' q' => hQ v T' (s1.trans s') q'⟩
    rw [List.append_nil]; exact q1
theorem ev_call0 {x : Str} {p pos : Pos} {k : Nat} {R : List (Bool × PyData) → Bool × PyData → Prop} {b : Bool} {d : PyData} (c : FnD F.P F.w F.K F.mg F.base k x R) (hR : R [] (b, d)) (hk : k ≤ F.k := by decide)
    (hg : ∀ p, Gl (F.X p) x := by intro _; rfl) (hdb : (x == ("__debug__" : Str)) = false := by decide) : EvP F (.Call (.Name x p) [] [] pos) Γ b d := fun T0 T σ ok Q hQ => by
  obtain ⟨f, fd, ps, fo, fm, fk, fb⟩ := c.ex
  refine wpE_of (fun _ => tCall (spD F.K R) [] E0 tNil) (fun p => ?_) fun _ => ?_
  · have fo' : FnOk (F.X p).prog (F.X p).w (F.X p).K (F.X p).mg (F.X p).base CX0 k f fd ps (spD F.K R) := by rw [F.hP p, F.hw p, F.hK p, F.hm p, F.hb p]; exact fo
    exact pe_call0 (ds := []) fo' ((F.hr p).mono hk) (hg p) (by rw [F.hm p]; exact fm) (by rw [F.hK p]; exact fk) (by rw [F.hK p]; exact fb) .nil pass0 hdb
  · exact ⟨T, [], (b, d), rfl, ok.ok, hR, trivial, fun v T' s' q' => hQ v T' s' q'⟩
end

/-- a def's body -/
def fm0 (P : Program) (w : World) (K : PySem.W.Frag) (mg : Str → Option Value) (base : Heap) (N : List Str) (qual : Str) (sc : Scope) (f : Addr) (k : Nat) (nd : N.Nodup) (cdv : Value) (A : Around) (outer : List Env) (s : Shared) (H : Hp) (E : XK)
    (hr : Room k (A.deeper (envOfC qual sc s.heap.objs.size f cdv))) : Fm where
  I := Unit
  X := fun _ => (cxOf CX0 P w K mg base N qual sc f cdv A outer s H E).nox
  P := P
  w := w
  K := K
  mg := mg
  base := base
  N := N
  k := k
  hP := fun _ => rfl
  hw := fun _ => rfl
  hK := fun _ => rfl
  hm := fun _ => rfl
  hb := fun _ => rfl
  hN := fun _ => rfl
  nd := nd
  hc := fun _ => rfl
  hx := fun _ => rfl
  hr := fun _ => hr
def env0 (N : List Str) (as : List (Bool × PyData)) : List En := as.map (fun a => .d a.1 a.2) ++ List.replicate (N.length - as.length) .no
/-- how a body may end that gives r -/
def Gives (o : Out) (r : Bool × PyData) : Prop := o = .rt r.1 r.2 ∨ ∃ Γ, o = .nx Γ ∧ r.2 = .none
theorem env0_ok {K : PySem.W.Frag} {T : Hs} (ok : T.Ok) (N : List Str) : ∀ {vs : List V} {as : List (Bool × PyData)}, AtA K T vs as → EnvOk K T T (start N vs) (env0 N as) := fun {vs as} h => by
  have hl := ata_len h
  refine ⟨.refl ok, by unfold L2.start env0; simp [hl], fun i e q => ?_, fun i j b xs c ys hij q _ => ?_, fun _ _ => none, ?_⟩
  rotate_left 2
  · have nw : ∀ {i : Nat} {k : Wk}, ¬ (env0 N as)[i]? = some (.w k) := fun {i k} q => by
      unfold env0 at q
      rw [List.getElem?_append] at q
      split at q
      · rw [List.getElem?_map] at q
        cases r : as[i]? with
        | none => rw [r] at q; cases q
        | some a => rw [r] at q; cases q
      · rw [List.getElem?_replicate] at q
        split at q <;> cases q
    exact ⟨fun _ _ q => (nw q).elim, fun _ _ _ _ _ q => (nw q).elim, fun _ _ _ _ _ _ q => (nw q).elim⟩
  · unfold env0 at q
    unfold L2.start
    by_cases hi : i < as.length
    · rw [List.getElem?_append_left (by simpa using hi)] at q
      rw [List.getElem?_append_left (by simpa [hl] using hi)]
      rw [List.getElem?_map] at q ⊢
      have ata_get : ∀ {vs : List V} {as : List (Bool × PyData)} {i : Nat} {a : Bool × PyData}, AtA K T vs as → as[i]? = some a → ∃ v, vs[i]? = some v ∧ Dp K (T.lv a.1) v a.2 := by
        intro vs as
        induction as generalizing vs with
        | nil => intro i a _ e; simp at e
        | cons a0 r ih =>
          intro i a h e
          cases vs with
          | nil => exact h.elim
          | cons v vs =>
            cases i with
            | zero => simp at e; subst e; exact ⟨v, rfl, h.1⟩
            | succ i =>
              obtain ⟨v', h1, h2⟩ := ih (i := i) h.2 (by simpa using e)
              exact ⟨v', by simpa using h1, h2⟩
      cases r : as[i]? with
      | none => rw [r] at q; cases q
      | some a =>
        rw [r] at q
        cases q
        obtain ⟨v, h1, h2⟩ := ata_get h r
        exact ⟨v, by rw [h1]; rfl, h2⟩
    · rw [List.getElem?_append_right (by simpa using hi), List.getElem?_replicate] at q
      split at q
      · cases q; trivial
      · cases q
  · unfold env0 at q
    exfalso
    rw [List.getElem?_append] at q
    split at q
    · rw [List.getElem?_map] at q
      cases r : as[i]? with
      | none => rw [r] at q; cases q
      | some a => rw [r] at q; cases q
    · rw [List.getElem?_replicate] at q
      split at q <;> cases q
section
variable {P : Program} {w : World} {K : PySem.W.Frag} {mg : Str → Option Value} {base : Heap}
theorem def_ok {x qual : Str} {st : Stmt} {f : Addr} {fd : FuncData} {N ps : List Str} {k : Nat} {R : List (Bool × PyData) → Bool × PyData → Prop} (Fn : Fun K x qual st f fd) (S : FnScope N ps (defScope st)) (hg : mg x = some (.ref f)) (hb : Binds K fd ps []) (hl : ∀ as r, R as r → as.length = ps.length)
    (body : ∀ (cdv : Value) (A : Around) (outer : List Env) (s : Shared) (H : Hp) (E : XK) (hr : Room k (A.deeper (envOfC qual (defScope st) s.heap.objs.size f cdv))) (as : List (Bool × PyData)) (r : Bool × PyData), R as r →
      ∃ o, Gives o r ∧ ExB (fm0 P w K mg base N qual (defScope st) f k S.nd cdv A outer s H E hr) (defBody st) (env0 N as) o) : FnD P w K mg base (k + 1) x R := by
  refine ⟨f, fd, ps, Fn.ok S (fun vs H Q E h => ?_) (fun cdv A outer s H vs Q E hr h => ?_), hg, Fn.kp, hb⟩
  · obtain ⟨T, as, r, _, _, hR, hA, _⟩ := h
    rw [ata_len hA]; exact hl as r hR
  · obtain ⟨T, as, r, rfl, ok, hR, hA, hQ⟩ := h
    obtain ⟨o, hgv, hb⟩ := body cdv A outer s T.H E hr as r hR
    refine ⟨wpB (fm0 P w K mg base N qual (defScope st) f k S.nd cdv A outer s T.H E hr) (defBody st), pss_wp (F := fm0 P w K mg base N qual (defScope st) f k S.nd cdv A outer s T.H E hr) (), ?_⟩
    refine hb T T _ (env0_ok ok N hA) _ ?_
    rcases hgv with rfl | ⟨Γ, rfl, e⟩
    · exact fun T' v s' q' => hQ v T' s' q'
    · exact fun T' σ ok' _ => hQ .non T' ok'.st (by rw [e]; cases r.1 <;> exact .non)
end
end T2
end
section
set_option Elab.async false
set_option linter.all false
set_option autoImplicit false
set_option maxRecDepth 100000
namespace T2
open PySem PySem.Spec L2
open PyProof.Rows hiding St
open PySem.W (alike alikeAll dataLt keyToks keyToksAll)

/-! ### typed data -/
class Py (α : Type) where
  enc : α → PyData
  dp : Nat
  dep : ∀ x, (enc x).depth ≤ dp
  alk : ∀ x y, alike (enc x) (enc y) = true
  inj : ∀ x y, PyData.eqv (enc x) (enc y) = true → x = y

open Py (enc)
/-- nothing in it can be changed -/
class PyI (α : Type) [Py α] : Prop where
  im : ∀ x : α, imm (enc x) = true
theorem Py.self {α : Type} [Py α] (x : α) : PyData.eqv (enc x) (enc x) = true := PySem.W.eqv_refl_alike _ (Py.alk x x)
theorem Py.eqv {α : Type} [Py α] [DecidableEq α] (x y : α) : PyData.eqv (enc x) (enc y) = decide (x = y) := by
  by_cases h : x = y
  · subst h; rw [Py.self]; simp
  · rw [decide_eq_false h]
    cases q : PyData.eqv (enc x) (enc y) with
    | false => rfl
    | true => exact absurd (Py.inj x y q) h
instance : Py Int where
  enc := .int
  dp := 0
  dep := fun _ => by simp [PyData.depth]
  alk := fun _ _ => by simp [alike]
  inj := fun x y h => by simpa [PyData.eqv] using h
instance : Py Bool where
  enc := .bool
  dp := 0
  dep := fun _ => by simp [PyData.depth]
  alk := fun _ _ => by simp [alike]
  inj := fun x y h => by simpa [PyData.eqv] using h
instance : Py Str where
  enc := .str
  dp := 0
  dep := fun _ => by simp [PyData.depth]
  alk := fun _ _ => by simp [alike]
  inj := fun x y h => by simpa [PyData.eqv] using h
instance {α β : Type} [Py α] [Py β] : Py (α × β) where
  enc := fun x => .tuple [enc x.1, enc x.2]
  dp := max (Py.dp α) (Py.dp β) + 1
  dep := fun x => by
    have h1 := Py.dep x.1
    have h2 := Py.dep x.2
    simp only [PyData.depth, PyData.depthAll]
    omega
  alk := fun x y => by simp [alike, alikeAll, Py.alk]
  inj := fun x y h => by
    simp only [PyData.eqv, PyData.eqvAll, Bool.and_eq_true] at h
    exact Prod.ext (Py.inj _ _ h.1) (Py.inj _ _ h.2.1)
/-- a triple -/
structure T3 (α β γ : Type) where
  a : α
  b : β
  c : γ
  deriving DecidableEq
instance {α β γ : Type} [Py α] [Py β] [Py γ] : Py (T3 α β γ) where
  enc := fun x => .tuple [enc x.a, enc x.b, enc x.c]
  dp := max (Py.dp α) (max (Py.dp β) (Py.dp γ)) + 1
  dep := fun x => by
    have h1 := Py.dep x.a
    have h2 := Py.dep x.b
    have h3 := Py.dep x.c
    simp only [PyData.depth, PyData.depthAll]
    omega
  alk := fun x y => by simp [alike, alikeAll, Py.alk]
  inj := fun x y h => by
    simp only [PyData.eqv, PyData.eqvAll, Bool.and_eq_true] at h
    have e1 := Py.inj _ _ h.1
    have e2 := Py.inj _ _ h.2.1
    have e3 := Py.inj _ _ h.2.2.1
    cases x; cases y
    simp only at e1 e2 e3
    rw [e1, e2, e3]
theorem depthAll_le {α : Type} [Py α] : ∀ xs : List α, PyData.depthAll (xs.map enc) ≤ Py.dp α
  | [] => by simp [PyData.depthAll]
  | x :: xs => by
    have h1 := Py.dep x
    have h2 := depthAll_le xs
    simp only [List.map_cons, PyData.depthAll]
    omega
theorem alikeAll_map {α : Type} [Py α] : ∀ xs ys : List α, alikeAll (xs.map enc) (ys.map enc) = true
  | [], _ => by simp [alikeAll]
  | _ :: _, [] => by simp [alikeAll]
  | x :: xs, y :: ys => by
    simp only [List.map_cons, alikeAll, Bool.and_eq_true]
    exact ⟨Py.alk x y, alikeAll_map xs ys⟩
theorem injAll {α : Type} [Py α] : ∀ xs ys : List α, PyData.eqvAll (xs.map enc) (ys.map enc) = true → xs = ys
  | [], [], _ => rfl
  | [], _ :: _, h => by simp [PyData.eqvAll] at h
  | _ :: _, [], h => by simp [PyData.eqvAll] at h
  | x :: xs, y :: ys, h => by
    simp only [List.map_cons, PyData.eqvAll, Bool.and_eq_true] at h
    rw [Py.inj _ _ h.1, injAll xs ys h.2]
instance {α : Type} [Py α] : Py (List α) where
  enc := fun xs => .list (xs.map enc)
  dp := Py.dp α + 1
  dep := fun xs => by
    have := depthAll_le xs
    simp only [PyData.depth]
    omega
  alk := fun xs ys => by simp only [alike]; exact alikeAll_map xs ys
  inj := fun xs ys h => by
    simp only [PyData.eqv] at h
    exact injAll xs ys h
instance : PyI Int := ⟨fun _ => rfl⟩
instance : PyI Bool := ⟨fun _ => rfl⟩
instance : PyI Str := ⟨fun _ => rfl⟩
instance {α β : Type} [Py α] [Py β] [PyI α] [PyI β] : PyI (α × β) := ⟨fun x => by
  show imm (.tuple [enc x.1, enc x.2]) = true
  simp [imm, immA, PyI.im]⟩
instance {α β γ : Type} [Py α] [Py β] [Py γ] [PyI α] [PyI β] [PyI γ] : PyI (T3 α β γ) := ⟨fun x => by
  show imm (.tuple [enc x.a, enc x.b, enc x.c]) = true
  simp [imm, immA, PyI.im]⟩
/-! ### the order -/
def ltb {α : Type} [Py α] (x y : α) : Bool := dataLt (enc x) (enc y)
section
variable {α : Type} [Py α]
theorem ltb_irr (x : α) : ltb x x = false := PyProof.Rows.lex_irrefl _
theorem ltb_trans {x y z : α} (h : ltb x y = true) (k : ltb y z = true) : ltb x z = true := PyProof.Rows.lex_trans _ _ _ h k
theorem ltb_tri {x y : α} (h : ltb x y = false) (k : ltb y x = false) : x = y := by
  have e : keyToks (enc x) = keyToks (enc y) := PyProof.Rows.lex_total _ _ h k
  cases q : PyData.eqv (enc x) (enc y) with
  | true => exact Py.inj x y q
  | false =>
    exfalso
    have t := (PySem.W.toks_eqv (enc x) (enc y) (Py.alk x y)).2 q [] [.inl 0]
    rw [e, PySem.W.lex_pre] at t
    have z : PyProof.Rows.lexLt PyProof.Rows.itemOrd (keyToks (enc y)) (keyToks (enc y)) = false := PyProof.Rows.lex_irrefl _
    rw [z] at t
    exact absurd t (by decide)
/-- sorted -/
def srt (xs : List α) : List α := xs.mergeSort fun a b => !ltb b a
theorem srt_perm (xs : List α) : (srt xs).Perm xs := List.mergeSort_perm xs _
theorem leb_trans (a b c : α) (h : (!ltb b a) = true) (k : (!ltb c b) = true) : (!ltb c a) = true := by
  cases q : ltb c a with
  | false => rfl
  | true =>
    exfalso
    have h' : ltb b a = false := by simpa using h
    have k' : ltb c b = false := by simpa using k
    cases r : ltb b c with
    | true => rw [ltb_trans r q] at h'; cases h'
    | false =>
      have e := ltb_tri r k'
      subst e
      rw [q] at h'; cases h'
theorem leb_total (a b : α) : (!ltb b a || !ltb a b) = true := by
  cases q : ltb b a with
  | false => rfl
  | true =>
    cases r : ltb a b with
    | false => rfl
    | true => exact absurd (ltb_trans r q) (by rw [ltb_irr]; simp)
theorem srt_sorted (xs : List α) : (srt xs).Pairwise fun a b => ltb b a = false := by
  have h := List.pairwise_mergeSort (le := fun a b : α => !ltb b a) leb_trans leb_total xs
  exact h.imp fun {a b} q => by simpa using q
/-- one sorted list alone -/
theorem sorted_unique : ∀ {xs ys : List α}, xs.Perm ys → xs.Pairwise (fun a b => ltb b a = false) → ys.Pairwise (fun a b => ltb b a = false) → xs = ys
  | [], ys, p, _, _ => by rw [List.nil_perm.mp p]
  | x :: xs, [], p, _, _ => by have := p.length_eq; simp at this
  | x :: xs, y :: ys, p, h1, h2 => by
    rw [List.pairwise_cons] at h1 h2
    have e : x = y := by
      by_cases hxy : x = y
      · exact hxy
      · have m1 : x ∈ ys := by
          have := p.mem_iff.mp (List.mem_cons_self (a := x) (l := xs))
          rcases List.mem_cons.mp this with z | z
          · exact absurd z hxy
          · exact z
        have m2 : y ∈ xs := by
          have := p.mem_iff.mpr (List.mem_cons_self (a := y) (l := ys))
          rcases List.mem_cons.mp this with z | z
          · exact absurd z.symm hxy
          · exact z
        exact ltb_tri (h2.1 x m1) (h1.1 y m2)
    subst e
    rw [sorted_unique (List.Perm.cons_inv p) h1.2 h2.2]
theorem srt_of {xs ys : List α} (p : xs.Perm ys) (h : ys.Pairwise fun a b => ltb b a = false) : srt xs = ys := sorted_unique ((srt_perm xs).trans p) (srt_sorted xs) h
theorem srt_congr {xs ys : List α} (p : xs.Perm ys) : srt xs = srt ys := srt_of (p.trans (srt_perm ys).symm) (srt_sorted ys)
theorem srt_len (xs : List α) : (srt xs).length = xs.length := (srt_perm xs).length_eq
theorem srt_mem {xs : List α} {x : α} : x ∈ srt xs ↔ x ∈ xs := (srt_perm xs).mem_iff
theorem srt_id {xs : List α} (h : xs.Pairwise fun a b => ltb b a = false) : srt xs = xs := srt_of (.refl _) h
end
end T2
end
section
set_option Elab.async false
set_option linter.all false
set_option autoImplicit false
set_option maxRecDepth 100000
namespace T2
open PySem PySem.Spec L2 PySem.SeqAt
open PyProof.Rows hiding St
open PySem.W (alike alikeAll dataLt keyToks keyToksAll eqAt_alike eqAt_alikeAll rcLt_alike)
open Py (enc)

/-! ### == and != of data that are alike -/
theorem rc_eqA {da db : PyData} {A : Around} {s : Shared} {a b : Value} {as bs : List Addr} (ra : Reads s.heap a da as) (rb : Reads s.heap b db bs) (h : alike da db = true) (hu : A.units + min da.depth db.depth < cLine) : RcAt A s a b (PyData.eqv da db) := by
  cases ra with
  | none =>
    cases rb with
    | none => exact RcAt.none_none
    | _ => simp [alike] at h
  | bool x =>
    cases rb with
    | bool y => exact RcAt.bool_bool x y
    | _ => simp [alike] at h
  | int x t =>
    cases rb with
    | int y u => exact RcAt.int_int x t y u
    | _ => simp [alike] at h
  | str x t =>
    cases rb with
    | str y u => exact RcAt.str_str x t y u
    | _ => simp [alike] at h
  | @list l o vs n xs as1 h1 h2 h3 h4 =>
    have hl : s.heap.IsList l vs := ⟨_, h1, h2, _, h3⟩
    cases rb with
    | @list l' o' vs' n' ys bs1 k1 k2 k3 k4 =>
      have hl' : s.heap.IsList l' vs' := ⟨_, k1, k2, _, k3⟩
      have n1 : vs.size = xs.length := by simpa using ReadsAll.length _ _ _ h4
      have n2 : vs'.size = ys.length := by simpa using ReadsAll.length _ _ _ k4
      have he : ∀ j (j1 : j < vs.size) (j2 : j < vs'.size), EqAt A.in1 s vs[j] vs'[j] (pairEq xs ys j) := fun j j1 j2 => by
        have q := eqAt_alikeAll xs ys A.in1 s vs.toList vs'.toList _ _ h4 k4 (by simpa [alike] using h) (room_in hu) j (by simpa using j1) (by simpa using j2)
        simpa using q
      show RcAt A s (.ref l) (.ref l') (PyData.eqvAll xs ys)
      by_cases hsz : vs.size = vs'.size
      · rw [← eqvAll_same_length (show xs.length = ys.length by omega), ← n1]
        exact RcAt.lists hl hl' hsz (room_here hu) he
      · rw [eqvAll_other_length (show xs.length ≠ ys.length by omega)]
        exact RcAt.lists_lengths hl hl' (by simpa using hsz) (room_here hu)
    | _ => simp [alike] at h
  | @tuple l o vs n xs as1 h1 h2 h3 h4 =>
    have hl : s.heap.IsTuple l vs := ⟨_, h1, h2, _, h3⟩
    cases rb with
    | @tuple l' o' vs' n' ys bs1 k1 k2 k3 k4 =>
      have hl' : s.heap.IsTuple l' vs' := ⟨_, k1, k2, _, k3⟩
      have n1 : vs.size = xs.length := by simpa using ReadsAll.length _ _ _ h4
      have n2 : vs'.size = ys.length := by simpa using ReadsAll.length _ _ _ k4
      have he : ∀ j (j1 : j < vs.size) (j2 : j < vs'.size), EqAt A.in1 s vs[j] vs'[j] (pairEq xs ys j) := fun j j1 j2 => by
        have q := eqAt_alikeAll xs ys A.in1 s vs.toList vs'.toList _ _ h4 k4 (by simpa [alike] using h) (room_in hu) j (by simpa using j1) (by simpa using j2)
        simpa using q
      show RcAt A s (.ref l) (.ref l') (PyData.eqvAll xs ys)
      rw [← eqvAll_eq xs ys, ← n1, ← n2]
      exact RcAt.tuples hl hl' (room_here hu) he
    | _ => simp [alike] at h
  | dict => simp [alike] at h
theorem rc_neA {da db : PyData} {A : Around} {s : Shared} {a b : Value} {as bs : List Addr} (ra : Reads s.heap a da as) (rb : Reads s.heap b db bs) (h : alike da db = true) (hu : A.units + min da.depth db.depth < cLine) : RcNeAt A s a b (!PyData.eqv da db) := by
  cases ra with
  | none =>
    cases rb with
    | none => exact RcNeAt.none_none
    | _ => simp [alike] at h
  | bool x =>
    cases rb with
    | bool y => exact RcNeAt.bool_bool x y
    | _ => simp [alike] at h
  | int x t =>
    cases rb with
    | int y u => exact RcNeAt.int_int x t y u
    | _ => simp [alike] at h
  | str x t =>
    cases rb with
    | str y u => exact RcNeAt.str_str x t y u
    | _ => simp [alike] at h
  | @list l o vs n xs as1 h1 h2 h3 h4 =>
    have hl : s.heap.IsList l vs := ⟨_, h1, h2, _, h3⟩
    cases rb with
    | @list l' o' vs' n' ys bs1 k1 k2 k3 k4 =>
      have hl' : s.heap.IsList l' vs' := ⟨_, k1, k2, _, k3⟩
      have n1 : vs.size = xs.length := by simpa using ReadsAll.length _ _ _ h4
      have n2 : vs'.size = ys.length := by simpa using ReadsAll.length _ _ _ k4
      have he : ∀ j (j1 : j < vs.size) (j2 : j < vs'.size), EqAt A.in1 s vs[j] vs'[j] (pairEq xs ys j) := fun j j1 j2 => by
        have q := eqAt_alikeAll xs ys A.in1 s vs.toList vs'.toList _ _ h4 k4 (by simpa [alike] using h) (room_in hu) j (by simpa using j1) (by simpa using j2)
        simpa using q
      show RcNeAt A s (.ref l) (.ref l') (!PyData.eqvAll xs ys)
      by_cases hsz : vs.size = vs'.size
      · rw [← eqvAll_same_length (show xs.length = ys.length by omega), ← n1]
        exact RcNeAt.lists hl hl' hsz (room_here hu) he
      · rw [eqvAll_other_length (show xs.length ≠ ys.length by omega)]
        exact RcNeAt.lists_lengths hl hl' (by simpa using hsz) (room_here hu)
    | _ => simp [alike] at h
  | @tuple l o vs n xs as1 h1 h2 h3 h4 =>
    have hl : s.heap.IsTuple l vs := ⟨_, h1, h2, _, h3⟩
    cases rb with
    | @tuple l' o' vs' n' ys bs1 k1 k2 k3 k4 =>
      have hl' : s.heap.IsTuple l' vs' := ⟨_, k1, k2, _, k3⟩
      have n1 : vs.size = xs.length := by simpa using ReadsAll.length _ _ _ h4
      have n2 : vs'.size = ys.length := by simpa using ReadsAll.length _ _ _ k4
      have he : ∀ j (j1 : j < vs.size) (j2 : j < vs'.size), EqAt A.in1 s vs[j] vs'[j] (pairEq xs ys j) := fun j j1 j2 => by
        have q := eqAt_alikeAll xs ys A.in1 s vs.toList vs'.toList _ _ h4 k4 (by simpa [alike] using h) (room_in hu) j (by simpa using j1) (by simpa using j2)
        simpa using q
      show RcNeAt A s (.ref l) (.ref l') (!PyData.eqvAll xs ys)
      rw [← eqvAll_eq xs ys, ← n1, ← n2]
      exact RcNeAt.tuples hl hl' (room_here hu) he
    | _ => simp [alike] at h
  | dict => simp [alike] at h

def rA (K : PySem.W.Frag) (g : PyData → PyData → Bool) : R2 := fun x y H Q => ∃ d e, Dp K H x d ∧ Dp K H y e ∧ alike d e = true ∧ d.depth ≤ 60 ∧ d ≠ .none ∧ Q (.bl (g d e)) H
section
variable {X : Cx}
theorem op_eqA (hu : X.A.units + 64 < cLine) : OpR X (compareOp .Eq) (rA X.K PyData.eqv) := by
  intro pins s σ H x y v u Q I rx ry h
  obtain ⟨d, e, hd, he, ha, hp, _, q⟩ := h
  obtain ⟨as, r1⟩ := Dp.reads I d x v hd rx
  obtain ⟨bs, r2⟩ := Dp.reads I e y u he ry
  exact rc_eqA r1 r2 ha (by omega) _ _ _ _ ⟨.bl _, H, I, rfl, q⟩
theorem op_neA (hu : X.A.units + 64 < cLine) : OpR X (compareOp .NotEq) (rA X.K fun d e => !PyData.eqv d e) := by
  intro pins s σ H x y v u Q I rx ry h
  obtain ⟨d, e, hd, he, ha, hp, _, q⟩ := h
  obtain ⟨as, r1⟩ := Dp.reads I d x v hd rx
  obtain ⟨bs, r2⟩ := Dp.reads I e y u he ry
  exact rc_neA r1 r2 ha (by omega) _ _ _ _ ⟨.bl _, H, I, rfl, q⟩
theorem op_ltA (hu : X.A.units + 64 < cLine) : OpR X (compareOp .Lt) (rA X.K dataLt) := by
  intro pins s σ H x y v u Q I rx ry h
  obtain ⟨d, e, hd, he, ha, hp, hn, q⟩ := h
  obtain ⟨as, r1⟩ := Dp.reads I d x v hd rx
  obtain ⟨bs, r2⟩ := Dp.reads I e y u he ry
  exact rcLt_alike d e X.A s v u as bs r1 r2 ha hn (by omega) _ _ _ _ ⟨.bl _, H, I, rfl, q⟩
/-- in, not in, of a list of alike data -/
def rInA (K : PySem.W.Frag) (neg : Bool) : R2 := fun x y H Q => ∃ d ds, Dp K H x d ∧ Dp K H y (.list ds) ∧ (∀ z ∈ ds, alike z d = true) ∧ d.depth ≤ 60 ∧ Q (.bl (neg != ds.any fun z => PyData.eqv z d)) H
theorem readsAll_get {h : Heap} : ∀ (ds : List PyData) (vs : List Value) (as : List Addr), ReadsAll h vs ds as → ∀ y ∈ vs, ∃ d as', d ∈ ds ∧ Reads h y d as'
  | [], _, _, r, y, hy => by cases r; cases hy
  | d :: ds, _, _, r, y, hy => by
    cases r with
    | cons h1 h2 =>
      rcases List.mem_cons.mp hy with rfl | hy
      · exact ⟨d, _, List.mem_cons_self, h1⟩
      · obtain ⟨d', as', q1, q2⟩ := readsAll_get ds _ _ h2 y hy
        exact ⟨d', as', List.mem_cons_of_mem _ q1, q2⟩
/-- a value's datum, among alike ones -/
theorem in_core {A : Around} {s : Shared} {u : Value} {d : PyData} {bs : List Addr} (ru : Reads s.heap u d bs) (hp : A.units + 60 < cLine) (hd : d.depth ≤ 60) : ∀ (ds : List PyData) (vs : List Value) (as : List Addr), ReadsAll s.heap vs ds as → (∀ z ∈ ds, alike z d = true) →
    ∃ e : Value → Bool, (∀ y ∈ vs, EqAt A s y u (e y)) ∧ vs.any e = ds.any fun z => PyData.eqv z d := by
  intro ds vs as r hal
  classical
  refine ⟨fun y => if h : ∃ z as', z ∈ ds ∧ Reads s.heap y z as' then PyData.eqv h.choose d else false, fun y hy => ?_, ?_⟩
  · have h := readsAll_get ds vs as r y hy
    show EqAt A s y u (if h : ∃ z as', z ∈ ds ∧ Reads s.heap y z as' then PyData.eqv h.choose d else false)
    rw [dif_pos h]
    obtain ⟨as', q1, q2⟩ := h.choose_spec
    exact eqAt_alike _ d A s y u as' bs q2 ru (hal _ q1) (by omega)
  · have same : ∀ y z as', z ∈ ds → Reads s.heap y z as' → (if h : ∃ z as', z ∈ ds ∧ Reads s.heap y z as' then PyData.eqv h.choose d else false) = PyData.eqv z d := fun y z as' hz hr => by
      have h : ∃ z as', z ∈ ds ∧ Reads s.heap y z as' := ⟨z, as', hz, hr⟩
      rw [dif_pos h]
      obtain ⟨as2, q1, q2⟩ := h.choose_spec
      rw [(_root_.PySem.Reads.unique q2 z as' hr).1]
    have go : ∀ (ds' : List PyData) (vs' : List Value) (as' : List Addr), ReadsAll s.heap vs' ds' as' → (∀ z ∈ ds', z ∈ ds) → (vs'.any fun y => if h : ∃ z as', z ∈ ds ∧ Reads s.heap y z as' then PyData.eqv h.choose d else false) = ds'.any fun z => PyData.eqv z d := by
      intro ds'
      induction ds' with
      | nil => intro vs' as' r' _; cases r'; rfl
      | cons z ds' ih =>
        intro vs' as' r' hm
        cases r' with
        | cons h1 h2 =>
          rw [List.any_cons, List.any_cons, same _ z _ (hm z List.mem_cons_self) h1, ih _ _ h2 fun x hx => hm x (List.mem_cons_of_mem _ hx)]
    exact go ds vs as r fun _ h => h
theorem op_inA (neg : Bool) (hu : X.A.units + 64 < cLine) : OpR X (compareOp (cond neg .NotIn .In)) (rInA X.K neg) := by
  intro pins s σ H x y v u Q I rx ry h
  obtain ⟨d, ds, hd, he, hal, hp, q⟩ := h
  obtain ⟨as, r1⟩ := Dp.reads I d x v hd rx
  cases he with
  | @lst a vs _ hs ha =>
    cases ry
    obtain ⟨its, rv, pl, hz⟩ := I.list hs
    obtain ⟨bs, r2⟩ := Dp.readsAll I ds _ its ha rv
    obtain ⟨e, e1, e2⟩ := in_core (A := X.A.in1) r1 (show X.A.units + 1 + 60 < cLine by omega) hp ds its bs r2 hal
    have hany : (its.toArray.any e) = ds.any fun z => PyData.eqv z d := by
      rw [← e2]; simp
    cases neg with
    | true =>
      refine notIn_listAt e pl.isList (fun y hy => e1 y (by simpa using hy)) ⟨.bl _, H, I, rfl, ?_⟩
      rw [hany]; simpa using q
    | false =>
      refine in_listAt e pl.isList (fun y hy => e1 y (by simpa using hy)) ⟨.bl _, H, I, rfl, ?_⟩
      rw [hany]; simpa using q
end
/-! ### over judgements -/
theorem Fm.un (F : Fm) (p : F.I) : (F.X p).A.units + 64 < cLine := (F.hr p).units
section
variable {F : Fm} {Γ : List En} {α : Type} [Py α]
theorem enc_ne_none (x : α) : enc x = PyData.none ∨ enc x ≠ PyData.none := by
  cases h : (enc x) <;> simp
theorem rA_ok {g : PyData → PyData → Bool} {c la lb : Bool} {x y : α} (hd : Py.dp α ≤ 60) (hn : enc x ≠ PyData.none) (hc : g (enc x) (enc y) = c) (p : F.I) (T : Hs) (u v : V) (Q : VK) (o : T.Ok) (hx : Dp F.K (T.lv la) u (enc x)) (hy : Dp F.K (T.lv lb) v (enc y)) (q : ∀ T', Stp T T' → Q (.bl c) T'.H) : rA (F.X p).K g u v T.H Q := by
  rw [F.hK p]
  refine ⟨enc x, enc y, up hx (o.lh la), up hy (o.lh lb), Py.alk x y, Nat.le_trans (Py.dep x) hd, hn, ?_⟩
  rw [hc]
  exact q T (.refl o)
/-- what is no None -/
class PyN (α : Type) [Py α] : Prop where
  nn : ∀ x : α, enc x ≠ PyData.none
instance : PyN Int := ⟨fun _ h => nomatch h⟩
instance : PyN Bool := ⟨fun _ h => nomatch h⟩
instance : PyN Str := ⟨fun _ h => nomatch h⟩
instance {α β : Type} [Py α] [Py β] : PyN (α × β) := ⟨fun _ h => nomatch h⟩
instance {α β γ : Type} [Py α] [Py β] [Py γ] : PyN (T3 α β γ) := ⟨fun _ h => nomatch h⟩
instance {α : Type} [Py α] : PyN (List α) := ⟨fun _ h => nomatch h⟩
variable [DecidableEq α] [PyN α]
theorem t_eq {a b : Expr} {pos : Pos} {la lb l : Bool} {x y : α} (ha : EvP F a Γ la (enc x)) (hb : EvP F b Γ lb (enc y)) (hd : Py.dp α ≤ 60 := by decide) : EvP F (.Compare a [.Eq] [b] pos) Γ l (enc (decide (x = y))) :=
  ev_cmp (r := fun p => rA (F.X p).K PyData.eqv) (fun p => op_eqA (F.un p)) ha hb (nomark _) fun p T u v Q o hx hy q => rA_ok hd (PyN.nn x) (Py.eqv x y) p T u v Q o hx hy q
theorem t_ne {a b : Expr} {pos : Pos} {la lb l : Bool} {x y : α} (ha : EvP F a Γ la (enc x)) (hb : EvP F b Γ lb (enc y)) (hd : Py.dp α ≤ 60 := by decide) : EvP F (.Compare a [.NotEq] [b] pos) Γ l (enc (!decide (x = y))) :=
  ev_cmp (r := fun p => rA (F.X p).K fun d e => !PyData.eqv d e) (fun p => op_neA (F.un p)) ha hb (nomark _) fun p T u v Q o hx hy q => rA_ok hd (PyN.nn x) (by rw [Py.eqv x y]) p T u v Q o hx hy q
theorem t_lt {a b : Expr} {pos : Pos} {la lb l : Bool} {x y : α} (ha : EvP F a Γ la (enc x)) (hb : EvP F b Γ lb (enc y)) (hd : Py.dp α ≤ 60 := by decide) : EvP F (.Compare a [.Lt] [b] pos) Γ l (enc (ltb x y)) :=
  ev_cmp (r := fun p => rA (F.X p).K dataLt) (fun p => op_ltA (F.un p)) ha hb (nomark _) fun p T u v Q o hx hy q => rA_ok hd (PyN.nn x) rfl p T u v Q o hx hy q
theorem ts_eqq {a b : Expr} {pos : Pos} {la lb : Bool} {x y : α} (ha : EvP F a Γ la (enc x)) (hb : EvP F b Γ lb (enc y)) (hd : Py.dp α ≤ 60 := by decide) : TsP F (.Compare a [.Eq] [b] pos) Γ (decide (x = y)) :=
  ts_cmp (r := fun p => rA (F.X p).K PyData.eqv) (fun p => op_eqA (F.un p)) ha hb (nomark _) fun p T u v Q o hx hy q => rA_ok hd (PyN.nn x) (Py.eqv x y) p T u v Q o hx hy q
theorem ts_ne {a b : Expr} {pos : Pos} {la lb : Bool} {x y : α} (ha : EvP F a Γ la (enc x)) (hb : EvP F b Γ lb (enc y)) (hd : Py.dp α ≤ 60 := by decide) : TsP F (.Compare a [.NotEq] [b] pos) Γ (!decide (x = y)) :=
  ts_cmp (r := fun p => rA (F.X p).K fun d e => !PyData.eqv d e) (fun p => op_neA (F.un p)) ha hb (nomark _) fun p T u v Q o hx hy q => rA_ok hd (PyN.nn x) (by rw [Py.eqv x y]) p T u v Q o hx hy q
theorem ts_lt {a b : Expr} {pos : Pos} {la lb : Bool} {x y : α} (ha : EvP F a Γ la (enc x)) (hb : EvP F b Γ lb (enc y)) (hd : Py.dp α ≤ 60 := by decide) : TsP F (.Compare a [.Lt] [b] pos) Γ (ltb x y) :=
  ts_cmp (r := fun p => rA (F.X p).K dataLt) (fun p => op_ltA (F.un p)) ha hb (nomark _) fun p T u v Q o hx hy q => rA_ok hd (PyN.nn x) rfl p T u v Q o hx hy q
theorem any_enc (x : α) : ∀ xs : List α, ((xs.map enc).any fun z => PyData.eqv z (enc x)) = decide (x ∈ xs)
  | [] => by simp
  | y :: ys => by
    rw [List.map_cons, List.any_cons, any_enc x ys, Py.eqv]
    by_cases h : y = x
    · simp [h]
    · have h' : ¬ x = y := fun z => h z.symm
      simp [h, h']
theorem rIn_ok {neg la lb : Bool} {x : α} {xs : List α} (hd : Py.dp α ≤ 60) (p : F.I) (T : Hs) (u v : V) (Q : VK) (o : T.Ok) (hx : Dp F.K (T.lv la) u (enc x)) (hy : Dp F.K (T.lv lb) v (enc xs)) (q : ∀ T', Stp T T' → Q (.bl (neg != decide (x ∈ xs))) T'.H) : rInA (F.X p).K neg u v T.H Q := by
  rw [F.hK p]
  refine ⟨enc x, xs.map enc, up hx (o.lh la), up hy (o.lh lb), fun z hz => ?_, Nat.le_trans (Py.dep x) hd, ?_⟩
  · obtain ⟨y, _, rfl⟩ := List.mem_map.mp hz
    exact Py.alk y x
  · rw [any_enc]
    exact q T (.refl o)
theorem t_in {a b : Expr} {pos : Pos} {la lb l : Bool} {x : α} {xs : List α} (ha : EvP F a Γ la (enc x)) (hb : EvP F b Γ lb (enc xs)) (hd : Py.dp α ≤ 60 := by decide) (hm : behindInMarks .In b = false := by rfl) : EvP F (.Compare a [.In] [b] pos) Γ l (enc (decide (x ∈ xs))) :=
  ev_cmp (r := fun p => rInA (F.X p).K false) (fun p => op_inA false (F.un p)) ha hb hm fun p T u v Q o hx hy q => rIn_ok hd p T u v Q o hx hy (by simpa using q)
theorem t_nin {a b : Expr} {pos : Pos} {la lb l : Bool} {x : α} {xs : List α} (ha : EvP F a Γ la (enc x)) (hb : EvP F b Γ lb (enc xs)) (hd : Py.dp α ≤ 60 := by decide) (hm : behindInMarks .NotIn b = false := by rfl) : EvP F (.Compare a [.NotIn] [b] pos) Γ l (enc (!decide (x ∈ xs))) :=
  ev_cmp (r := fun p => rInA (F.X p).K true) (fun p => op_inA true (F.un p)) ha hb hm fun p T u v Q o hx hy q => rIn_ok hd p T u v Q o hx hy (by simpa using q)
theorem ts_in {a b : Expr} {pos : Pos} {la lb : Bool} {x : α} {xs : List α} (ha : EvP F a Γ la (enc x)) (hb : EvP F b Γ lb (enc xs)) (hd : Py.dp α ≤ 60 := by decide) (hm : behindInMarks .In b = false := by rfl) : TsP F (.Compare a [.In] [b] pos) Γ (decide (x ∈ xs)) :=
  ts_cmp (r := fun p => rInA (F.X p).K false) (fun p => op_inA false (F.un p)) ha hb hm fun p T u v Q o hx hy q => rIn_ok hd p T u v Q o hx hy (by simpa using q)
theorem ts_nin {a b : Expr} {pos : Pos} {la lb : Bool} {x : α} {xs : List α} (ha : EvP F a Γ la (enc x)) (hb : EvP F b Γ lb (enc xs)) (hd : Py.dp α ≤ 60 := by decide) (hm : behindInMarks .NotIn b = false := by rfl) : TsP F (.Compare a [.NotIn] [b] pos) Γ (!decide (x ∈ xs)) :=
  ts_cmp (r := fun p => rInA (F.X p).K true) (fun p => op_inA true (F.un p)) ha hb hm fun p T u v Q o hx hy q => rIn_ok hd p T u v Q o hx hy (by simpa using q)
end
end T2
end
section
set_option Elab.async false
set_option linter.all false
set_option autoImplicit false
set_option maxRecDepth 100000
namespace T2
open PySem PySem.Spec L2
open PyProof.Rows hiding St
open PySem.W (alike alikeAll dataLt EachIs)
open Py (enc)

/-! ### sorted -/
class PyS (α : Type) [Py α] : Prop where
  so : ∀ bs : List α, PySem.W.Sortable (bs.map enc)
instance : PyS Int := ⟨fun _ => PySem.W.Sortable.others fun _ => ⟨(fun h => nomatch h), (fun _ h => nomatch h)⟩⟩
instance : PyS Str := ⟨fun _ => PySem.W.Sortable.others fun _ => ⟨(fun h => nomatch h), (fun _ h => nomatch h)⟩⟩
instance {α : Type} [Py α] : PyS (List α) := ⟨fun _ => PySem.W.Sortable.others fun _ => ⟨(fun h => nomatch h), (fun _ h => nomatch h)⟩⟩
instance {α β : Type} [Py α] [Py β] : PyS (α × β) := ⟨fun _ => PySem.W.Sortable.tuples fun x => ⟨enc x.1, [enc x.2], rfl⟩⟩
instance {α β γ : Type} [Py α] [Py β] [Py γ] : PyS (T3 α β γ) := ⟨fun _ => PySem.W.Sortable.tuples fun x => ⟨enc x.a, [enc x.b, enc x.c], rfl⟩⟩
theorem each_dp {α : Type} [Py α] {K : PySem.W.Frag} {H : Hp} : ∀ {vs : List V} {us : List Value} {bs : List α}, DpAll K H vs (bs.map enc) → Vals vs us → EachIs (fun u b => ∃ x, RelV x u ∧ Dp K H x (enc b)) us bs
  | _, _, [], h, r => by cases h; cases r; exact .nil
  | _, _, b :: bs, h, r => by
    cases h with
    | cons h1 h2 =>
      cases r with
      | cons r1 r2 => exact .cons ⟨_, r1, h1⟩ (each_dp h2 r2)
theorem each_back {α : Type} [Py α] {K : PySem.W.Frag} {H : Hp} : ∀ {us : List Value} {bs : List α}, EachIs (fun u b => ∃ x, RelV x u ∧ Dp K H x (enc b)) us bs → ∃ vs, Vals vs us ∧ DpAll K H vs (bs.map enc)
  | _, _, .nil => ⟨[], .nil, .nil⟩
  | _, _, .cons ⟨x, r, d⟩ t => by
    obtain ⟨vs, h1, h2⟩ := each_back t
    exact ⟨x :: vs, .cons r h1, .cons d h2⟩
def rSrt (K : PySem.W.Frag) (α : Type) [Py α] : List V → Hp → VK → Prop := fun xs H Q => ∃ (l : Addr) (vs : List V) (bs : List α) (Hl : Hp), xs = [.ref l] ∧ SqL K H l vs ∧ Same Hl H ∧ DpAll K Hl vs (bs.map enc) ∧ ∀ p vs', H p = none → DpAll K Hl vs' ((srt bs).map enc) → Q (.ref p) (upd H p (.lst vs'))
theorem cr_srt {X : Cx} {α : Type} [Py α] [PyS α] (hu : X.A.units + 64 < cLine) (hd : Py.dp α ≤ 60) : CallR X (.builtin "sorted") (rSrt X.K α) := by
  intro pins s σ H xs us Q I r h
  obtain ⟨l, vs, bs, Hl, rfl, hs, hsm, ha, q⟩ := h
  obtain ⟨u, rfl, rx⟩ := vals1 r
  cases rx
  obtain ⟨its, rv, pl, hz⟩ := I.list hs
  have hbl : bs.length = vs.length := by have := dpa_len ha; rw [List.length_map] at this; exact this.symm
  have haH : DpAll X.K H vs (bs.map enc) := upA ha hsm
  have er : EachIs (fun u b => ∃ as, Reads s.heap u (enc b) as) its bs := (each_dp haH rv).mono fun u b ⟨x, r1, d1⟩ => Dp.reads I _ x u d1 r1
  refine PySem.W.sorted_data (enc := enc) pl.isList (each_dp ha rv) er (PySem.W.AllAlike.of fun b b' => Py.alk b b') (PyS.so bs) (by rw [hbl]; exact hz) (fun b _ => ?_) fun out ho eo => ?_
  · have := Py.dep b
    omega
  · obtain ⟨vs', rv', ha'⟩ := each_back eo
    obtain ⟨c, hc⟩ := sortedAll_at s.heap its out.toArray
    have hf : H (s.heap.objs.size + 1) = none := I.hok.fresh (Nat.le_succ _)
    have hl' : vs'.length = bs.length := by rw [rv'.length]; exact ho
    refine ⟨.ref (s.heap.objs.size + 1), upd H (s.heap.objs.size + 1) (.lst vs'), I.laid (t' := s.toks) (fun b o e => sortedAll_old e) (Nat.le_succ _) ⟨by rw [hl', hbl]; exact hz, out, c, rv', hc⟩, rfl, q _ vs' hf ha'⟩

/-! ### calls of built-ins, over judgements -/
section
variable {F : Fm} {Γ : List En}
theorem ev_callB {x : Str} {id : String} {e : Expr} {es : List Expr} {p pos : Pos} {as : List (Bool × PyData)} {b : Bool} {d : PyData} {r : F.I → List V → Hp → VK → Prop} (hc : ∀ p, CallR (F.X p) (.builtin id) (r p)) (ha : EvA F (e :: es) Γ as) (hm : F.mg x = none) (hv : bootBuiltins x = some (.builtin id))
    (hr : ∀ p T vs Q, T.Ok → AtA F.K T vs as → (∀ v T', Stp T T' → Dp F.K (T'.lv b) v d → Q v T'.H) → r p vs T.H Q) (hg : ∀ p, Gl (F.X p) x := by intro _; rfl) (hn : x ≠ "__name__" := by decide) (hdb : (x == ("__debug__" : Str)) = false := by decide)
    (he : ∀ p, starEach (e :: es) (F.X p).env = (false, eval e (F.X p).env) :: starEach es (F.X p).env := by intro _; rfl) (hpl : ∀ p, (backTo pos (starEach es (F.X p).env)).any (·.1) = false := by intro _; rfl) : EvP F (.Call (.Name x p) (e :: es) [] pos) Γ b d := fun T0 T σ ok Q hQ =>
  wpE_of (fun p => tCB (r p) (wpA F (e :: es))) (fun p => pe_callB (hc p) (hg p) (by rw [F.hm p]; exact hm) hv (pa_wp p) hn hdb (he p) (hpl p)) fun p => ha T0 T σ ok _ fun vs T1 s1 q1 => hr p T1 vs Q s1.ok q1 fun v T' s' q' => hQ v T' (s1.trans s') q'
theorem en_callB {x : Str} {id : String} {e : Expr} {es : List Expr} {p pos : Pos} {as : List (Bool × PyData)} {b : Bool} {ys : List PyData} {r : F.I → List V → Hp → VK → Prop} (hc : ∀ p, CallR (F.X p) (.builtin id) (r p)) (ha : EvA F (e :: es) Γ as) (hm : F.mg x = none) (hv : bootBuiltins x = some (.builtin id))
    (hr : ∀ p T vs Q, T.Ok → AtA F.K T vs as → (∀ l us, T.H l = none → us.length ≤ sizeLine → DpAll F.K (T.lv b) us ys → Q (.ref l) (upd T.H l (.lst us))) → r p vs T.H Q) (hg : ∀ p, Gl (F.X p) x := by intro _; rfl) (hn : x ≠ "__name__" := by decide) (hdb : (x == ("__debug__" : Str)) = false := by decide)
    (he : ∀ p, starEach (e :: es) (F.X p).env = (false, eval e (F.X p).env) :: starEach es (F.X p).env := by intro _; rfl) (hpl : ∀ p, (backTo pos (starEach es (F.X p).env)).any (·.1) = false := by intro _; rfl) : EvN F (.Call (.Name x p) (e :: es) [] pos) Γ b ys := fun T0 T σ ok Q hQ =>
  wpE_of (fun p => tCB (r p) (wpA F (e :: es))) (fun p => pe_callB (hc p) (hg p) (by rw [F.hm p]; exact hm) hv (pa_wp p) hn hdb (he p) (hpl p)) fun p => ha T0 T σ ok _ fun vs T1 s1 q1 => hr p T1 vs Q s1.ok q1 fun l us n hz ha => by
    have s2 := stp_opn s1.ok (xs := us) n hz
    exact hQ l us (T1.opn l us) (s1.trans s2) (s1.h.free n) (s1.ok.gn n) upd_same (upA ha (s2.l b))
theorem en_callTy {x : Str} {Ty : String} {e : Expr} {es : List Expr} {p pos : Pos} {as : List (Bool × PyData)} {b : Bool} {ys : List PyData} {r : F.I → List V → Hp → VK → Prop} (hc : ∀ p, CallR (F.X p) (.type Ty) (r p)) (ha : EvA F (e :: es) Γ as) (hm : F.mg x = none) (hv : bootBuiltins x = some (.type Ty))
    (hr : ∀ p T vs Q, T.Ok → AtA F.K T vs as → (∀ l us, T.H l = none → us.length ≤ sizeLine → DpAll F.K (T.lv b) us ys → Q (.ref l) (upd T.H l (.lst us))) → r p vs T.H Q) (hg : ∀ p, Gl (F.X p) x := by intro _; rfl) (hn : x ≠ "__name__" := by decide) (hdb : (x == ("__debug__" : Str)) = false := by decide)
    (he : ∀ p, starEach (e :: es) (F.X p).env = (false, eval e (F.X p).env) :: starEach es (F.X p).env := by intro _; rfl) (hpl : ∀ p, (backTo pos (starEach es (F.X p).env)).any (·.1) = false := by intro _; rfl) : EvN F (.Call (.Name x p) (e :: es) [] pos) Γ b ys := fun T0 T σ ok Q hQ =>
  wpE_of (fun p => tCB (r p) (wpA F (e :: es))) (fun p => pe_callTy (hc p) (hg p) (by rw [F.hm p]; exact hm) hv (pa_wp p) hn hdb (he p) (hpl p)) fun p => ha T0 T σ ok _ fun vs T1 s1 q1 => hr p T1 vs Q s1.ok q1 fun l us n hz ha => by
    have s2 := stp_opn s1.ok (xs := us) n hz
    exact hQ l us (T1.opn l us) (s1.trans s2) (s1.h.free n) (s1.ok.gn n) upd_same (upA ha (s2.l b))
variable {α : Type} [Py α]
/-- sorted(xs) -/
theorem n_srt [PyS α] {e : Expr} {p pos : Pos} {b : Bool} {xs : List α} (h : EvP F e Γ b (enc xs)) (hm : F.mg "sorted" = none) (hd : Py.dp α ≤ 60 := by decide) (hs : ∀ p, starEach [e] (F.X p).env = (false, eval e (F.X p).env) :: starEach [] (F.X p).env := by intro _; rfl)
    (hg : ∀ p, Gl (F.X p) "sorted" := by intro _; rfl) (hpl : ∀ p, (backTo pos (starEach [] (F.X p).env)).any (·.1) = false := by intro _; rfl) : EvN F (.Call (.Name "sorted" p) [e] [] pos) Γ b ((srt xs).map enc) :=
  en_callB (r := fun p => rSrt (F.X p).K α) (fun p => cr_srt (F.un p) hd) (ea_cons h ea_nil hs) hm PyProof.Rows.boot_sorted (fun p T vs Q o ha q => by
    obtain ⟨v, rfl, hv⟩ := ea1 ha
    cases hv with
    | @lst a us _ hs hal =>
      rw [F.hK]
      refine ⟨a, us, xs, T.lv b, rfl, (o.lh b).seq hs, o.lh b, hal, fun p vs' n ha' => q p vs' n ?_ ha'⟩
      · have z := sql_len o hs
        have e1 := dpa_len hal
        have e2 := dpa_len ha'
        rw [List.length_map, srt_len] at e2
        rw [List.length_map] at e1
        omega) hg (by decide) (by decide) hs hpl
/-- list(xs) -/
theorem n_list {e : Expr} {p pos : Pos} {b : Bool} {xs : List PyData} (h : EvP F e Γ b (.list xs)) (hm : F.mg "list" = none) (hs : ∀ p, starEach [e] (F.X p).env = (false, eval e (F.X p).env) :: starEach [] (F.X p).env := by intro _; rfl)
    (hg : ∀ p, Gl (F.X p) "list" := by intro _; rfl) (hpl : ∀ p, (backTo pos (starEach [] (F.X p).env)).any (·.1) = false := by intro _; rfl) : EvN F (.Call (.Name "list" p) [e] [] pos) Γ b xs :=
  en_callTy (r := fun p xs H Q => ∃ q ys, xs = [.ref q] ∧ (SqL (F.X p).K H q ys ∨ SqT (F.X p).K H q ys) ∧ ∀ l, H l = none → Q (.ref l) (upd H l (.lst ys))) (fun p => call_list_of) (ea_cons h ea_nil hs) hm PyProof.Rows.boot_list (fun p T vs Q o ha q => by
    obtain ⟨v, rfl, hv⟩ := ea1 ha
    cases hv with
    | @lst a us _ hs hal => exact ⟨a, us, rfl, .inl (by rw [F.hK]; exact (o.lh b).seq hs), fun l n => q l us n (sql_len o hs) hal⟩) hg (by decide) (by decide) hs hpl
/-- len of a list -/
theorem t_len {e : Expr} {p pos : Pos} {b l : Bool} {xs : List PyData} (h : EvP F e Γ b (.list xs)) (hm : F.mg "len" = none) (hs : ∀ p, starEach [e] (F.X p).env = (false, eval e (F.X p).env) :: starEach [] (F.X p).env := by intro _; rfl)
    (hg : ∀ p, Gl (F.X p) "len" := by intro _; rfl) (hpl : ∀ p, (backTo pos (starEach [] (F.X p).env)).any (·.1) = false := by intro _; rfl) : EvP F (.Call (.Name "len" p) [e] [] pos) Γ l (.int xs.length) :=
  ev_callB (r := fun p xs H Q => ∃ q ys, xs = [.ref q] ∧ (SqL (F.X p).K H q ys ∨ SqT (F.X p).K H q ys) ∧ Q (.int ys.length) H) (fun p => call_len_seq) (ea_cons h ea_nil hs) hm PySem.boot_len (fun p T vs Q o ha q => by
    obtain ⟨v, rfl, hv⟩ := ea1 ha
    cases hv with
    | @lst a us _ hs hal =>
      refine ⟨a, us, rfl, .inl (by rw [F.hK]; exact (o.lh b).seq hs), ?_⟩
      rw [dpa_len hal]
      exact q _ T (.refl o) (.int _)) hg (by decide) (by decide) hs hpl
theorem t_lenT {e : Expr} {p pos : Pos} {b l : Bool} {xs : List PyData} (h : EvP F e Γ b (.tuple xs)) (hm : F.mg "len" = none) (hs : ∀ p, starEach [e] (F.X p).env = (false, eval e (F.X p).env) :: starEach [] (F.X p).env := by intro _; rfl)
    (hg : ∀ p, Gl (F.X p) "len" := by intro _; rfl) (hpl : ∀ p, (backTo pos (starEach [] (F.X p).env)).any (·.1) = false := by intro _; rfl) : EvP F (.Call (.Name "len" p) [e] [] pos) Γ l (.int xs.length) :=
  ev_callB (r := fun p xs H Q => ∃ q ys, xs = [.ref q] ∧ (SqL (F.X p).K H q ys ∨ SqT (F.X p).K H q ys) ∧ Q (.int ys.length) H) (fun p => call_len_seq) (ea_cons h ea_nil hs) hm PySem.boot_len (fun p T vs Q o ha q => by
    obtain ⟨v, rfl, hv⟩ := ea1 ha
    cases hv with
    | @tup a us _ hs hal =>
      refine ⟨a, us, rfl, .inr (by rw [F.hK]; exact sqt_mono (o.lh b) hs), ?_⟩
      rw [dpa_len hal]
      exact q _ T (.refl o) (.int _)) hg (by decide) (by decide) hs hpl
theorem t_lenS {e : Expr} {p pos : Pos} {b l : Bool} {z : Str} (h : EvP F e Γ b (.str z)) (hz : z.length ≤ sizeLine) (hm : F.mg "len" = none) (hs : ∀ p, starEach [e] (F.X p).env = (false, eval e (F.X p).env) :: starEach [] (F.X p).env := by intro _; rfl)
    (hg : ∀ p, Gl (F.X p) "len" := by intro _; rfl) (hpl : ∀ p, (backTo pos (starEach [] (F.X p).env)).any (·.1) = false := by intro _; rfl) : EvP F (.Call (.Name "len" p) [e] [] pos) Γ l (.int z.length) :=
  ev_callB (r := fun _ xs H Q => ∃ z, xs = [.str z] ∧ z.length ≤ sizeLine ∧ Q (.int z.length) H) (fun p => call_len_str) (ea_cons h ea_nil hs) hm PySem.boot_len (fun p T vs Q o ha q => by
    obtain ⟨v, rfl, hv⟩ := ea1 ha
    cases hv
    exact ⟨z, rfl, hz, q _ T (.refl o) (.int _)⟩) hg (by decide) (by decide) hs hpl
theorem dpa_bools {K : PySem.W.Frag} {H : Hp} : ∀ {vs : List V} {bs : List Bool}, DpAll K H vs (bs.map PyData.bool) → vs = bs.map V.bl
  | _, [], h => by cases h; rfl
  | _, b :: bs, h => by
    cases h with
    | cons h1 h2 => cases h1; rw [dpa_bools h2]; rfl
theorem t_all {e : Expr} {p pos : Pos} {b l : Bool} {bs : List Bool} (h : EvP F e Γ b (enc bs)) (hm : F.mg "all" = none) (hs : ∀ p, starEach [e] (F.X p).env = (false, eval e (F.X p).env) :: starEach [] (F.X p).env := by intro _; rfl)
    (hg : ∀ p, Gl (F.X p) "all" := by intro _; rfl) (hpl : ∀ p, (backTo pos (starEach [] (F.X p).env)).any (·.1) = false := by intro _; rfl) : EvP F (.Call (.Name "all" p) [e] [] pos) Γ l (enc (bs.all id)) :=
  ev_callB (r := fun p => rAll (F.X p).K) (fun p => cr_all (F.hc p)) (ea_cons h ea_nil hs) hm PyProof.Rows.boot_all (fun p T vs Q o ha q => by
    obtain ⟨v, rfl, hv⟩ := ea1 ha
    cases hv with
    | @lst a us _ hs hal =>
      have e := dpa_bools hal
      subst e
      exact ⟨a, bs, rfl, by rw [F.hK]; exact (o.lh b).seq hs, q _ T (.refl o) (.bl _)⟩) hg (by decide) (by decide) hs hpl
theorem t_any {e : Expr} {p pos : Pos} {b l : Bool} {bs : List Bool} (h : EvP F e Γ b (enc bs)) (hm : F.mg "any" = none) (hs : ∀ p, starEach [e] (F.X p).env = (false, eval e (F.X p).env) :: starEach [] (F.X p).env := by intro _; rfl)
    (hg : ∀ p, Gl (F.X p) "any" := by intro _; rfl) (hpl : ∀ p, (backTo pos (starEach [] (F.X p).env)).any (·.1) = false := by intro _; rfl) : EvP F (.Call (.Name "any" p) [e] [] pos) Γ l (enc (bs.any id)) :=
  ev_callB (r := fun p => rAny (F.X p).K) (fun p => cr_any (F.hc p)) (ea_cons h ea_nil hs) hm PyProof.Rows.boot_any (fun p T vs Q o ha q => by
    obtain ⟨v, rfl, hv⟩ := ea1 ha
    cases hv with
    | @lst a us _ hs hal =>
      have e := dpa_bools hal
      subst e
      exact ⟨a, bs, rfl, by rw [F.hK]; exact (o.lh b).seq hs, q _ T (.refl o) (.bl _)⟩) hg (by decide) (by decide) hs hpl
theorem ea2 {K : PySem.W.Frag} {T : Hs} {vs : List V} {b c : Bool} {d e : PyData} (h : AtA K T vs [(b, d), (c, e)]) : ∃ v u, vs = [v, u] ∧ Dp K (T.lv b) v d ∧ Dp K (T.lv c) u e := by
  match vs, h with
  | [v, u], h => exact ⟨v, u, rfl, h.1, h.2.1⟩
theorem t_max {e f : Expr} {p pos : Pos} {b c l : Bool} {i j : Int} (h : EvA F [e, f] Γ [(b, .int i), (c, .int j)]) (hm : F.mg "max" = none) (hs : ∀ p, starEach [e, f] (F.X p).env = (false, eval e (F.X p).env) :: starEach [f] (F.X p).env := by intro _; rfl)
    (hg : ∀ p, Gl (F.X p) "max" := by intro _; rfl) (hpl : ∀ p, (backTo pos (starEach [f] (F.X p).env)).any (·.1) = false := by intro _; rfl) : EvP F (.Call (.Name "max" p) [e, f] [] pos) Γ l (.int (if j > i then j else i)) :=
  ev_callB (r := fun _ xs H Q => ∃ i j, xs = [.int i, .int j] ∧ Q (.int (if j > i then j else i)) H) (fun p => call_max2 (F.hc p)) h hm PyProof.Rows.boot_max (fun p T vs Q o ha q => by
    obtain ⟨v, u, rfl, hv, hu⟩ := ea2 ha
    cases hv; cases hu
    exact ⟨i, j, rfl, q _ T (.refl o) (.int _)⟩) hg (by decide) (by decide) hs hpl
theorem t_min {e f : Expr} {p pos : Pos} {b c l : Bool} {i j : Int} (h : EvA F [e, f] Γ [(b, .int i), (c, .int j)]) (hm : F.mg "min" = none) (hs : ∀ p, starEach [e, f] (F.X p).env = (false, eval e (F.X p).env) :: starEach [f] (F.X p).env := by intro _; rfl)
    (hg : ∀ p, Gl (F.X p) "min" := by intro _; rfl) (hpl : ∀ p, (backTo pos (starEach [f] (F.X p).env)).any (·.1) = false := by intro _; rfl) : EvP F (.Call (.Name "min" p) [e, f] [] pos) Γ l (.int (if j < i then j else i)) :=
  ev_callB (r := fun _ xs H Q => ∃ i j, xs = [.int i, .int j] ∧ Q (.int (if j < i then j else i)) H) (fun p => call_min2 (F.hc p)) h hm PyProof.Rows.boot_min (fun p T vs Q o ha q => by
    obtain ⟨v, u, rfl, hv, hu⟩ := ea2 ha
    cases hv; cases hu
    exact ⟨i, j, rfl, q _ T (.refl o) (.int _)⟩) hg (by decide) (by decide) hs hpl
/-! ### isinstance -/
def tyN : PyData → String
  | .none => "NoneType"
  | .bool _ => "bool"
  | .int _ => "int"
  | .str _ => "str"
  | .list _ => "list"
  | .tuple _ => "tuple"
  | .dict _ => "dict"
theorem dp_ty {K : PySem.W.Frag} {H : Hp} : ∀ {v : V} {d : PyData}, Dp K H v d → TyX K H v (.type (tyN d))
  | _, _, .non => .base .non
  | _, _, .bl b => .base (.bl b)
  | _, _, .int i => .base (.int i)
  | _, _, .str x => .base (.str x)
  | _, _, .lst hs _ => by
    rcases hs with (h | ⟨o, h⟩) | ⟨o, its, n, h1, h2, _⟩
    · exact .base (.lst h)
    · exact .base (.frz h)
    · exact .kList h1 h2
  | _, _, .tup hs _ => by
    rcases hs with (h | ⟨o, h⟩) | ⟨o, its, n, h1, h2, _⟩
    · exact .base (.tup h)
    · exact .fTuple h
    · exact .kTuple h1 h2
theorem t_isi {e : Expr} {x : Str} {Ty : String} {p q pos : Pos} {b l c : Bool} {d : PyData} (h : EvP F e Γ b d) (hm : F.mg "isinstance" = none) (hx : F.mg x = none) (hv : bootBuiltins x = some (.type Ty)) (hk : kitB (tyN d) Ty = some c)
    (hg : ∀ p, Gl (F.X p) "isinstance" := by intro _; rfl) (hgx : ∀ p, Gl (F.X p) x := by intro _; rfl) (hn : x ≠ "__name__" := by decide) (hdb : (x == ("__debug__" : Str)) = false := by decide)
    (hs : ∀ p, starEach [e, .Name x q] (F.X p).env = (false, eval e (F.X p).env) :: starEach [.Name x q] (F.X p).env := by intro _; rfl) (hs2 : ∀ p, starEach [.Name x q] (F.X p).env = (false, eval (.Name x q) (F.X p).env) :: starEach [] (F.X p).env := by intro _; rfl)
    (hpl : ∀ p, (backTo pos (starEach [.Name x q] (F.X p).env)).any (·.1) = false := by intro _; rfl) : EvP F (.Call (.Name "isinstance" p) [e, .Name x q] [] pos) Γ l (enc c) := fun T0 T σ ok Q hQ =>
  wpE_of (fun p => tCB (rIsi (F.X p).K) (tCons (wpE F e) (tCons (tC (.ty Ty)) tNil))) (fun p => pe_callB call_isi (hg p) (by rw [F.hm p]; exact hm) PyProof.Rows.boot_isinstance (pa_cons (pe_wp p) (pa_cons (pe_bltn (hgx p) (by rw [F.hm p]; exact hx) hv rfl hn hdb) pa_nil (hs2 p)) (hs p)) (by decide) (by decide) (hs p) (hpl p)) fun p =>
    h T0 T σ ok _ fun v T1 s1 q1 => ⟨v, .ty Ty, _, _, c, rfl, .ty Ty, (by rw [F.hK]; exact dp_ty (up q1 (s1.ok.lh b))), kit_ty hk, hQ _ T1 s1 (.bl c)⟩
theorem kb_list : kitB "list" "list" = some true := by decide +kernel
theorem kb_tuple : kitB "tuple" "tuple" = some true := by decide +kernel
theorem kb_str : kitB "str" "str" = some true := by decide +kernel
theorem kb_int : kitB "int" "int" = some true := by decide +kernel
theorem kb_bool : kitB "bool" "bool" = some true := by decide +kernel
theorem kb_int_bool : kitB "int" "bool" = some false := by decide +kernel
theorem kb_bool_int : kitB "bool" "int" = some true := by decide +kernel
end
end T2
end
section
set_option Elab.async false
set_option linter.all false
set_option autoImplicit false
set_option maxRecDepth 100000
namespace T2
open PySem PySem.Spec L2 PySem.SeqAt
open PyProof.Rows hiding St
open PySem.W (alike alikeAll dataLt EachIs eqAt_alike)

/-! ### levels of new data -/
abbrev Ar := Bool × PyData
def mkD (b : Bool) (d : PyData) : En := .d (b || imm d) d
def mkO (b : Bool) (xs : List PyData) : En := .o (b || immA xs) xs
def En.val : En → Option Ar
  | .no => none
  | .d b x => some (b, x)
  | .o b xs => some (b, .list xs)
  | .w _ => none
theorem dpa_imm_l {K : PySem.W.Frag} {T : Hs} {vs : List V} {ds : List PyData} {b : Bool} (o : T.Ok) (h : DpAll K (T.lv b) vs ds) (i : immA ds = true) (c : Bool) : DpAll K (T.lv c) vs ds :=
  upA (dpa_imm o.tp o.tz ds vs i (upA h (o.lh b))) (o.fl c)
theorem new_mkD {K : PySem.W.Frag} {T T' : Hs} {v : V} {b : Bool} {d : PyData} (o : T'.Ok) (h : Dp K (T'.lv b) v d) : EnNew K T T' v (mkD b d) := by
  show Dp K (T'.lv (b || imm d)) v d
  cases i : imm d with
  | true => rw [Bool.or_true]; exact imm_l o h i true
  | false => rw [Bool.or_false]; exact h
theorem new_mkO {K : PySem.W.Frag} {T T' : Hs} {l : Addr} {vs : List V} {b : Bool} {xs : List PyData} (o : T'.Ok) (n : T.H l = none) (g : T'.G l = none) (q : T'.H l = some (.lst vs)) (h : DpAll K (T'.lv b) vs xs) : EnNew K T T' (.ref l) (mkO b xs) := by
  refine ⟨l, vs, rfl, n, g, q, ?_⟩
  cases i : immA xs with
  | true => rw [Bool.or_true]; exact dpa_imm_l o h i true
  | false => rw [Bool.or_false]; exact h
section
variable {F : Fm} {Γ : List En}
theorem evx_val {e : Expr} {en : En} {a : Ar} (h : EvX F e Γ en) (q : en.val = some a) : EvP F e Γ a.1 a.2 := by
  cases en with
  | no => cases q
  | d b d => cases q; exact h
  | o b xs =>
    cases q
    refine ev_new fun T0 T σ ok Q hQ => h T0 T σ ok Q fun v T' s z => ?_
    obtain ⟨l, vs, rfl, n, g, q, a⟩ := z
    exact hQ l vs T' s n g q a
  | w k => cases q
theorem evx_d {e : Expr} {b : Bool} {d : PyData} (h : EvP F e Γ b d) : EvX F e Γ (mkD b d) := fun T0 T σ ok Q hQ => h T0 T σ ok Q fun v T' s q => hQ v T' s (new_mkD s.ok q)
theorem evx_o {e : Expr} {b : Bool} {xs : List PyData} (h : EvN F e Γ b xs) : EvX F e Γ (mkO b xs) := fun T0 T σ ok Q hQ => h T0 T σ ok Q fun l vs T' s n g q a => hQ (.ref l) T' s (new_mkO s.ok n g q a)
/-- a new list of data of a level -/
theorem new_lst {K : PySem.W.Frag} {T : Hs} {b : Bool} {vs : List V} {xs : List PyData} (o : T.Ok) (h : DpAll K (T.lv b) vs xs) (hz : xs.length ≤ sizeLine) {p : Addr} (n : T.H p = none) : Stp T (T.opn p vs) ∧ EnNew K T (T.opn p vs) (.ref p) (mkO b xs) := by
  have s := stp_opn o (xs := vs) n (by rw [dpa_len h]; exact hz)
  exact ⟨s, new_mkO s.ok n (o.gn n) upd_same (upA h (s.l b))⟩

/-! ### operations -/
def wpOp (F : Fm) (f : Value → Value → Sem Value) : R2 := fun x y H Q => ∀ p pins s σ v u, Inv (F.X p) pins σ H s → RelV x v → RelV y u → wpAny (model (F.X p).prog (F.X p).w) (F.X p).A (f v u) (EP (F.X p) pins σ Q) (F.X p).xe s
theorem opr_wp {f : Value → Value → Sem Value} (p : F.I) : OpR (F.X p) f (wpOp F f) := fun pins s σ H x y v u Q I rx ry h => h p pins s σ v u I rx ry
theorem wpOp_of {f : Value → Value → Sem Value} {x y : V} {H : Hp} {Q : VK} (r : F.I → R2) (h : ∀ p, OpR (F.X p) f (r p)) (q : ∀ p, r p x y H Q) : wpOp F f x y H Q := fun p pins s σ v u I rx ry => h p pins s σ H x y v u Q I rx ry (q p)
def OpD (F : Fm) (f : Value → Value → Sem Value) (a b : Ar) (r : En) : Prop :=
  ∀ T x y Q, T.Ok → Dp F.K (T.lv a.1) x a.2 → Dp F.K (T.lv b.1) y b.2 → (∀ v T', Stp T T' → EnNew F.K T T' v r → Q v T'.H) → wpOp F f x y T.H Q
inductive Bop | add | sub | mul | fdv | mod | shr | band | pow
def Bop.op : Bop → Operator
  | .add => .Add
  | .sub => .Sub
  | .mul => .Mult
  | .fdv => .FloorDiv
  | .mod => .Mod
  | .shr => .RShift
  | .band => .BitAnd
  | .pow => .Pow
instance {i j : Int} : Decidable (CMulX i j) := by unfold CMulX; infer_instance
instance {i j : Int} : Decidable (CDivW i j) := by unfold CDivW; infer_instance
instance {i j : Int} : Decidable (CPow i j) := by unfold CPow; infer_instance
def binI : Bop → Int → Int → Option Int
  | .add, i, j => some (i + j)
  | .sub, i, j => some (i - j)
  | .mul, i, j => if CMulX i j then some (i * j) else none
  | .fdv, i, j => if CDivW i j then some (i / j) else none
  | .mod, i, j => if 0 < j then some (i % j) else none
  | .shr, i, j => if 0 ≤ j then some (i / 2 ^ j.toNat) else none
  | .band, i, j => some (Builtin.bitAnd i j)
  | .pow, i, j => if CPow i j then some (i ^ j.toNat) else none
def binD (o : Bop) (a b : Ar) : Option En :=
  match a.2, b.2 with
  | .int i, .int j => (binI o i j).map fun k => .d true (.int k)
  | .str x, .str y => match o with
    | .add => if x.length + y.length ≤ sizeLine then some (.d true (.str (x ++ y))) else none
    | _ => none
  | .list xs, .list ys => match o with
    | .add => if xs.length + ys.length ≤ sizeLine then some (mkO (a.1 && b.1) (xs ++ ys)) else none
    | _ => none
  | _, _ => none
theorem binI_ok {o : Bop} {i j k : Int} {la lb : Bool} (h : binI o i j = some k) : OpD F (binaryOp o.op) (la, .int i) (lb, .int j) (.d true (.int k)) := by
  intro T x y Q ok hx hy hQ
  cases hx
  cases hy
  have q : Q (.int k) T.H := hQ _ T (.refl ok) (.int k)
  cases o with
  | add => cases h; exact wpOp_of (fun _ => _) (fun _ => op_add) fun _ => ⟨i, j, rfl, rfl, q⟩
  | sub => cases h; exact wpOp_of (fun _ => _) (fun _ => op_sub) fun _ => ⟨i, j, rfl, rfl, q⟩
  | mul =>
    simp only [binI, Option.ite_none_right_eq_some, Option.some.injEq] at h
    obtain ⟨hc, rfl⟩ := h
    exact wpOp_of (fun _ => _) (fun _ => op_mulX) fun _ => ⟨i, j, rfl, rfl, hc, q⟩
  | fdv =>
    simp only [binI, Option.ite_none_right_eq_some, Option.some.injEq] at h
    obtain ⟨hc, rfl⟩ := h
    exact wpOp_of (fun _ => _) (fun _ => op_fdivW) fun _ => ⟨i, j, rfl, rfl, hc, q⟩
  | mod =>
    simp only [binI, Option.ite_none_right_eq_some, Option.some.injEq] at h
    obtain ⟨hc, rfl⟩ := h
    exact wpOp_of (fun _ => _) (fun _ => op_mod) fun _ => ⟨i, j, rfl, rfl, hc, q⟩
  | shr =>
    simp only [binI, Option.ite_none_right_eq_some, Option.some.injEq] at h
    obtain ⟨hc, rfl⟩ := h
    exact wpOp_of (fun _ => _) (fun _ => op_shr) fun _ => ⟨i, j, rfl, rfl, hc, q⟩
  | band => cases h; exact wpOp_of (fun _ => _) (fun _ => op_and) fun _ => ⟨i, j, rfl, rfl, q⟩
  | pow =>
    simp only [binI, Option.ite_none_right_eq_some, Option.some.injEq] at h
    obtain ⟨hc, rfl⟩ := h
    exact wpOp_of (fun _ => _) (fun _ => op_pow) fun _ => ⟨i, j, rfl, rfl, hc, q⟩
def rCatL (K : PySem.W.Frag) : R2 := fun x y H Q => ∃ l b xs zs, x = .ref l ∧ y = .ref b ∧ SqL K H l xs ∧ SqL K H b zs ∧ xs.length + zs.length ≤ sizeLine ∧ ∀ p, H p = none → Q (.ref p) (upd H p (.lst (xs ++ zs)))
theorem op_catL {X : Cx} : OpR X (binaryOp .Add) (rCatL X.K) := by
  intro pins s σ H x y v u Q I rx ry h
  obtain ⟨l, b, xs, zs, rfl, rfl, hH, hB, hz, q⟩ := h
  cases rx
  cases ry
  obtain ⟨its, r, pl, z⟩ := I.list hH
  obtain ⟨its2, r2, pl2, z2⟩ := I.list hB
  have hl := r.length
  have hl2 := r2.length
  obtain ⟨⟨cls, dd, data, sl⟩, n, ho, hc, _, hd⟩ := pl
  obtain ⟨⟨cls2, dd2, data2, sl2⟩, n2, ho2, hc2, _, hd2⟩ := pl2
  simp only at hc hd hc2 hd2
  subst hc hd hc2 hd2
  have ea : its.toArray ++ its2.toArray = (its ++ its2).toArray := by simp
  refine concat_meets ⟨_, ho, rfl⟩ ⟨_, ho2, rfl⟩ noFill_list_add seq_list_add PySem.F.slot_list_add PySem.F.entry_list_add (PySem.F.args_list_add_2 _ _) (list_addW l b its.toArray its2.toArray n n2 dd dd2 sl sl2 (by simp; omega)) ⟨ho, ho2, ?_⟩
  rw [ea]
  exact ⟨.ref _, _, I.lnew (t' := s.toks) (r.append r2) (by rw [List.length_append]; omega), rfl, q _ I.fresh⟩
theorem lv_and1 {T : Hs} (o : T.Ok) (a b : Bool) : Same (T.lv a) (T.lv a) := .refl _
theorem low_and {K : PySem.W.Frag} {T : Hs} (o : T.Ok) {a b : Bool} {vs us : List V} {xs ys : List PyData} (h : DpAll K (T.lv a) vs xs) (q : DpAll K (T.lv b) us ys) : DpAll K (T.lv (a && b)) (vs ++ us) (xs ++ ys) := by
  cases a with
  | true =>
    cases b with
    | true => exact dpa_app h q
    | false => exact dpa_app (upA h (o.lg true)) q
  | false => exact dpa_app h (upA q (o.lg b))
theorem binD_ok {o : Bop} {a b : Ar} {r : En} (h : binD o a b = some r) : OpD F (binaryOp o.op) a b r := by
  obtain ⟨la, a⟩ := a
  obtain ⟨lb, b⟩ := b
  unfold binD at h
  split at h
  · rename_i i j e1 e2
    cases e1
    cases e2
    cases q : binI o i j with
    | none => rw [q] at h; cases h
    | some k => rw [q] at h; cases h; exact binI_ok q
  · rename_i x y e1 e2
    cases e1
    cases e2
    cases o with
    | add =>
      simp only at h
      split at h
      · cases h
        intro T x y Q ok hx hy hQ
        cases hx
        cases hy
        exact wpOp_of (fun _ => _) (fun _ => op_add_str) fun _ => ⟨_, _, rfl, rfl, by assumption, hQ _ T (.refl ok) (.str _)⟩
      · cases h
    | _ => cases h
  · rename_i xs ys e1 e2
    cases e1
    cases e2
    cases o with
    | add =>
      simp only at h
      split at h
      · cases h
        rename_i hz
        intro T x y Q ok hx hy hQ
        cases hx with
        | @lst l vs _ hs ha =>
          cases hy with
          | @lst l2 us _ hs2 ha2 =>
            refine wpOp_of (fun p => rCatL (F.X p).K) (fun _ => op_catL) fun p => ?_
            rw [F.hK p]
            refine ⟨l, l2, vs, us, rfl, rfl, (ok.lh la).seq hs, (ok.lh lb).seq hs2, by rw [dpa_len ha, dpa_len ha2]; exact hz, fun q n => ?_⟩
            obtain ⟨s, e⟩ := new_lst (p := q) ok (low_and ok ha ha2) (by rw [List.length_append]; exact hz) n
            exact hQ _ _ s e
      · cases h
    | _ => cases h
  · cases h
end
end T2
end
section
set_option Elab.async false
set_option linter.all false
set_option autoImplicit false
set_option maxRecDepth 100000
namespace T2
open PySem PySem.Spec L2 PySem.SeqAt
open PyProof.Rows hiding St
open PySem.W (alike alikeAll dataLt EachIs eqAt_alike)

inductive Cop | eq | ne | lt | le | gt | ge | isIn | notIn | is | isNot
def Cop.op : Cop → CmpOp
  | .eq => .Eq
  | .ne => .NotEq
  | .lt => .Lt
  | .le => .LtE
  | .gt => .Gt
  | .ge => .GtE
  | .isIn => .In
  | .notIn => .NotIn
  | .is => .Is
  | .isNot => .IsNot
def isNon : PyData → Bool
  | .none => true
  | _ => false
def eqOk (d e : PyData) : Bool := alike d e && decide (d.depth ≤ 60)
def inD (d e : PyData) : Option Bool :=
  match e with
  | .str j => match d with
    | .str i => some (!(Builtin.Str.occurrences j i 0 j.length 1).isEmpty)
    | _ => none
  | .list ds => if (ds.all fun z => alike z d) && decide (d.depth ≤ 60) then some (ds.any fun z => PyData.eqv z d) else none
  | .tuple ds => if (ds.all fun z => alike z d) && decide (d.depth ≤ 60) then some (ds.any fun z => PyData.eqv z d) else none
  | _ => none
def isD (d e : PyData) : Option Bool :=
  match e with
  | .none => some (isNon d)
  | .bool c => match d with
    | .bool c' => some (decide (c' = c))
    | _ => none
  | _ => none
def ltD (d e : PyData) : Option Bool :=
  match d, e with
  | .int i, .int j => some (decide (i < j))
  | _, _ => if eqOk d e && !isNon d then some (dataLt d e) else none
def intC (g : Int → Int → Bool) (d e : PyData) : Option Bool :=
  match d, e with
  | .int i, .int j => some (g i j)
  | _, _ => none
def cmpD (o : Cop) (d e : PyData) : Option Bool :=
  match o with
  | .eq => if eqOk d e then some (PyData.eqv d e) else none
  | .ne => if eqOk d e then some (!PyData.eqv d e) else none
  | .lt => ltD d e
  | .le => intC (fun i j => decide (i ≤ j)) d e
  | .gt => intC (fun i j => decide (j < i)) d e
  | .ge => intC (fun i j => decide (j ≤ i)) d e
  | .isIn => inD d e
  | .notIn => (inD d e).map (!·)
  | .is => isD d e
  | .isNot => (isD d e).map (!·)
section
variable {F : Fm}
theorem op_inTA {X : Cx} (neg : Bool) (hu : X.A.units + 64 < cLine) : OpR X (compareOp (cond neg .NotIn .In)) (fun x y H Q => ∃ d ds, Dp X.K H x d ∧ Dp X.K H y (.tuple ds) ∧ (∀ z ∈ ds, alike z d = true) ∧ d.depth ≤ 60 ∧ Q (.bl (neg != ds.any fun z => PyData.eqv z d)) H) := by
  intro pins s σ H x y v u Q I rx ry h
  obtain ⟨d, ds, hd, he, hal, hp, q⟩ := h
  obtain ⟨as, r1⟩ := Dp.reads I d x v hd rx
  cases he with
  | @tup a vs _ hs ha =>
    cases ry
    obtain ⟨its, rv, pl, hz⟩ := I.tuple hs
    obtain ⟨bs, r2⟩ := Dp.readsAll I ds _ its ha rv
    obtain ⟨e, e1, e2⟩ := in_core (A := X.A.in1) r1 (show X.A.units + 1 + 60 < cLine by omega) hp ds its bs r2 hal
    have hany : (its.toArray.any e) = ds.any fun z => PyData.eqv z d := by
      rw [← e2]; simp
    cases neg with
    | true =>
      refine notIn_tupleAt e pl (fun y hy => e1 y (by simpa using hy)) ⟨.bl _, H, I, rfl, ?_⟩
      rw [hany]; simpa using q
    | false =>
      refine in_tupleAt e pl (fun y hy => e1 y (by simpa using hy)) ⟨.bl _, H, I, rfl, ?_⟩
      rw [hany]; simpa using q
theorem inD_ok {d e : PyData} {c la lb : Bool} (h : inD d e = some c) (neg : Bool) : OpD F (compareOp (cond neg .NotIn .In)) (la, d) (lb, e) (.d true (.bool (neg != c))) := by
  intro T x y Q ok hx hy hQ
  have q : Q (.bl (neg != c)) T.H := hQ _ T (.refl ok) (.bl _)
  unfold inD at h
  split at h
  · split at h
    · cases h
      cases hx
      cases hy
      cases neg with
      | true => exact wpOp_of (fun _ => _) (fun _ => op_notin_str) fun _ => ⟨_, _, rfl, rfl, by simpa using q⟩
      | false => exact wpOp_of (fun _ => _) (fun _ => op_in_str) fun _ => ⟨_, _, rfl, rfl, by simpa using q⟩
    · cases h
  · simp only [Option.ite_none_right_eq_some, Option.some.injEq, Bool.and_eq_true, List.all_eq_true, decide_eq_true_eq] at h
    obtain ⟨⟨h1, h2⟩, rfl⟩ := h
    exact wpOp_of (fun p => rInA (F.X p).K neg) (fun p => op_inA neg (F.un p)) fun p => by
      rw [F.hK p]
      exact ⟨_, _, up hx (ok.lh la), up hy (ok.lh lb), h1, h2, q⟩
  · simp only [Option.ite_none_right_eq_some, Option.some.injEq, Bool.and_eq_true, List.all_eq_true, decide_eq_true_eq] at h
    obtain ⟨⟨h1, h2⟩, rfl⟩ := h
    exact wpOp_of (fun p => _) (fun p => op_inTA neg (F.un p)) fun p => by
      rw [F.hK p]
      exact ⟨_, _, up hx (ok.lh la), up hy (ok.lh lb), h1, h2, q⟩
  · cases h
theorem isD_ok {d e : PyData} {c la lb : Bool} (h : isD d e = some c) (neg : Bool) : OpD F (compareOp (cond neg .IsNot .Is)) (la, d) (lb, e) (.d true (.bool (neg != c))) := by
  intro T x y Q ok hx hy hQ
  have q : Q (.bl (neg != c)) T.H := hQ _ T (.refl ok) (.bl _)
  unfold isD at h
  split at h
  · cases h
    cases hy
    have e : decide (x = V.non) = isNon d := by cases hx <;> simp [isNon]
    cases neg with
    | true => exact wpOp_of (fun _ => _) (fun _ => op_notN) fun _ => ⟨rfl, by rw [e]; simpa using q⟩
    | false => exact wpOp_of (fun _ => _) (fun _ => op_isN) fun _ => ⟨rfl, by rw [e]; simpa using q⟩
  · split at h
    · cases h
      cases hx
      cases hy
      cases neg with
      | true => exact wpOp_of (fun _ => _) (fun _ => op_isnot_bl) fun _ => ⟨_, _, rfl, rfl, by simpa using q⟩
      | false => exact wpOp_of (fun _ => _) (fun _ => op_is_bl) fun _ => ⟨_, _, rfl, rfl, by simpa using q⟩
    · cases h
  · cases h
theorem eqOk_ok {g : PyData → PyData → Bool} {d e : PyData} {la lb : Bool} {x y : V} {T : Hs} {Q : VK} (ok : T.Ok) (h : eqOk d e = true) (hn : d ≠ .none) (hx : Dp F.K (T.lv la) x d) (hy : Dp F.K (T.lv lb) y e) (q : Q (.bl (g d e)) T.H) (p : F.I) : rA (F.X p).K g x y T.H Q := by
  unfold eqOk at h
  rw [Bool.and_eq_true, decide_eq_true_eq] at h
  rw [F.hK p]
  exact ⟨d, e, up hx (ok.lh la), up hy (ok.lh lb), h.1, h.2, hn, q⟩
def rB (K : PySem.W.Frag) (g : PyData → PyData → Bool) : R2 := fun x y H Q => ∃ d e, Dp K H x d ∧ Dp K H y e ∧ alike d e = true ∧ d.depth ≤ 60 ∧ Q (.bl (g d e)) H
theorem op_eqB {X : Cx} (hu : X.A.units + 64 < cLine) : OpR X (compareOp .Eq) (rB X.K PyData.eqv) := by
  intro pins s σ H x y v u Q I rx ry h
  obtain ⟨d, e, hd, he, ha, hp, q⟩ := h
  obtain ⟨as, r1⟩ := Dp.reads I d x v hd rx
  obtain ⟨bs, r2⟩ := Dp.reads I e y u he ry
  exact rc_eqA r1 r2 ha (by omega) _ _ _ _ ⟨.bl _, H, I, rfl, q⟩
theorem op_neB {X : Cx} (hu : X.A.units + 64 < cLine) : OpR X (compareOp .NotEq) (rB X.K fun d e => !PyData.eqv d e) := by
  intro pins s σ H x y v u Q I rx ry h
  obtain ⟨d, e, hd, he, ha, hp, q⟩ := h
  obtain ⟨as, r1⟩ := Dp.reads I d x v hd rx
  obtain ⟨bs, r2⟩ := Dp.reads I e y u he ry
  exact rc_neA r1 r2 ha (by omega) _ _ _ _ ⟨.bl _, H, I, rfl, q⟩
theorem eqB_ok {g : PyData → PyData → Bool} {d e : PyData} {la lb : Bool} {x y : V} {T : Hs} {Q : VK} (ok : T.Ok) (h : eqOk d e = true) (hx : Dp F.K (T.lv la) x d) (hy : Dp F.K (T.lv lb) y e) (q : Q (.bl (g d e)) T.H) (p : F.I) : rB (F.X p).K g x y T.H Q := by
  unfold eqOk at h
  rw [Bool.and_eq_true, decide_eq_true_eq] at h
  rw [F.hK p]
  exact ⟨d, e, up hx (ok.lh la), up hy (ok.lh lb), h.1, h.2, q⟩
theorem alike_none {e : PyData} (h : alike .none e = true) : e = .none := by
  cases e <;> simp [alike] at h
  rfl
theorem intC_ok {g : Int → Int → Bool} {d e : PyData} {c la lb : Bool} {op : CmpOp} (ho : ∀ p : F.I, OpR (F.X p) (compareOp op) (rI0 fun i j => .bl (g i j))) (h : intC g d e = some c) : OpD F (compareOp op) (la, d) (lb, e) (.d true (.bool c)) := by
  intro T x y Q ok hx hy hQ
  have q : Q (.bl c) T.H := hQ _ T (.refl ok) (.bl _)
  unfold intC at h
  split at h
  · cases h
    cases hx
    cases hy
    exact wpOp_of (fun _ => _) ho fun _ => ⟨_, _, rfl, rfl, q⟩
  · cases h
theorem cmpD_ok {o : Cop} {d e : PyData} {c la lb : Bool} (h : cmpD o d e = some c) : OpD F (compareOp o.op) (la, d) (lb, e) (.d true (.bool c)) := by
  cases o with
  | eq =>
    intro T x y Q ok hx hy hQ
    simp only [cmpD, Option.ite_none_right_eq_some, Option.some.injEq] at h
    obtain ⟨h1, rfl⟩ := h
    have q : Q (.bl (PyData.eqv d e)) T.H := hQ _ T (.refl ok) (.bl _)
    exact wpOp_of _ (fun p => op_eqB (F.un p)) (eqB_ok ok h1 hx hy q)
  | ne =>
    intro T x y Q ok hx hy hQ
    simp only [cmpD, Option.ite_none_right_eq_some, Option.some.injEq] at h
    obtain ⟨h1, rfl⟩ := h
    have q : Q (.bl (!PyData.eqv d e)) T.H := hQ _ T (.refl ok) (.bl _)
    exact wpOp_of _ (fun p => op_neB (F.un p)) (eqB_ok ok h1 hx hy q)
  | lt =>
    intro T x y Q ok hx hy hQ
    have q : Q (.bl c) T.H := hQ _ T (.refl ok) (.bl _)
    simp only [cmpD] at h
    unfold ltD at h
    split at h
    · cases h
      cases hx
      cases hy
      exact wpOp_of (fun _ => _) (fun _ => op_lt) fun _ => ⟨_, _, rfl, rfl, q⟩
    · simp only [Option.ite_none_right_eq_some, Option.some.injEq, Bool.and_eq_true] at h
      obtain ⟨⟨h1, h2⟩, rfl⟩ := h
      exact wpOp_of _ (fun p => op_ltA (F.un p)) (eqOk_ok ok h1 (by rintro rfl; simp [isNon] at h2) hx hy q)
  | le => exact intC_ok (fun _ => op_le) h
  | gt => exact intC_ok (fun _ => op_gt) h
  | ge => exact intC_ok (fun _ => op_ge) h
  | isIn => have := inD_ok (F := F) (la := la) (lb := lb) h false; simpa [Cop.op] using this
  | notIn =>
    cases q : inD d e with
    | none => simp [cmpD, q] at h
    | some k =>
      simp only [cmpD, q, Option.map_some, Option.some.injEq] at h
      subst h
      have := inD_ok (F := F) (la := la) (lb := lb) q true
      simpa [Cop.op] using this
  | is => have := isD_ok (F := F) (la := la) (lb := lb) h false; simpa [Cop.op] using this
  | isNot =>
    cases q : isD d e with
    | none => simp [cmpD, q] at h
    | some k =>
      simp only [cmpD, q, Option.map_some, Option.some.injEq] at h
      subst h
      have := isD_ok (F := F) (la := la) (lb := lb) q true
      simpa [Cop.op] using this
end
end T2
end
section
set_option Elab.async false
set_option linter.all false
set_option autoImplicit false
set_option maxRecDepth 100000
namespace T2
open PySem PySem.Spec L2
open PyProof.Rows hiding St

/-- each once -/
def dd {α : Type} [DecidableEq α] : List α → List α
  | [] => []
  | x :: xs => if x ∈ xs then dd xs else x :: dd xs
theorem mem_dd {α : Type} [DecidableEq α] {x : α} : ∀ {xs : List α}, x ∈ dd xs ↔ x ∈ xs
  | [] => by simp [dd]
  | y :: ys => by
    rw [dd]
    split
    · rename_i h
      rw [mem_dd, List.mem_cons]
      constructor
      · exact .inr
      · rintro (rfl | z)
        · exact h
        · exact z
    · rw [List.mem_cons, List.mem_cons, mem_dd]
theorem nodup_dd {α : Type} [DecidableEq α] : ∀ xs : List α, (dd xs).Nodup
  | [] => List.nodup_nil
  | y :: ys => by
    rw [dd]
    split
    · exact nodup_dd ys
    · exact List.nodup_cons.mpr ⟨fun z => ‹¬ y ∈ ys› (mem_dd.mp z), nodup_dd ys⟩
/-- sorted(set(xs)) -/
def sset {α : Type} [Py α] [DecidableEq α] (xs : List α) : List α := srt (dd xs)
abbrev Ky := Str × Int

/-! ### tables of sets -/
structure Tb (w : World) (t : SetTable) (es : Array (Int × Value)) (rs : List (Int × Value)) : Prop where
  es : es.toList = rs
  tab : TabOk t (rs.map (·.1))
  led : w.params.followText "set-order" = true ∨ t.led = true
  room : rs.length * 5 < t.mask * 3
  few : rs.length < 64
section
variable {w : World} {t : SetTable} {es : Array (Int × Value)} {rs : List (Int × Value)}
theorem Tb.size (T : Tb w t es rs) : es.size = rs.length := by rw [← T.es, Array.length_toList]
theorem tab_fits {t : SetTable} {es : Array (Int × Value)} {rs : List (Int × Value)} (e : es.toList = rs) (T : TabOk t (rs.map (·.1))) (h : rs.length ≤ t.mask) : t.fits es.size = true := by
  have h1 := T.sz
  have h2 : es.size = rs.length := by rw [← e, Array.length_toList]
  rw [List.length_map] at h1
  unfold SetTable.fits SetTable.fill
  rw [T.dm, Bool.and_eq_true, beq_iff_eq, decide_eq_true_eq]
  refine ⟨by omega, ?_⟩
  show t.place.size + 0 ≤ t.mask
  omega
theorem Tb.fits (T : Tb w t es rs) : t.fits es.size = true := tab_fits T.es T.tab (by have := T.room; omega)
theorem Tb.odd (T : Tb w t es rs) : ¬ t.gaveWay = true := by
  unfold SetTable.gaveWay
  rw [mask_odd T.tab.mok]
  decide
theorem Tb.at (T : Tb w t es rs) {i : Nat} {p : Int × Value} (h : rs[i]? = some p) : es[i]? = some p := by rw [← Array.getElem?_toList, T.es, h]
theorem plain_tab {t : SetTable} {hs : List Int} (T : TabOk t hs) (b : Bool) : TabOk { t with plain := b } hs := ⟨T.ris, T.dm, T.sz, T.mok, T.bd, T.reach⟩
/-- one more row -/
structure Tp (t t1 : SetTable) (es1 : Array (Int × Value)) (rs rs1 : List (Int × Value)) (x : Int × Value) : Prop where
  es : es1.toList = rs1
  pm : rs1.Perm (x :: rs)
  tab : TabOk t1 (rs1.map (·.1))
  mask : t1.mask = t.mask
  led : t1.led = t.led
  fill : t1.fill = rs.length + 1
theorem Tb.put (T : Tb w t es rs) {x : Int × Value} {K : Nat} (hK : way t.mask x.1 K ∉ t.place.toList) (hb : ∀ k, k < K → way t.mask x.1 k ∈ t.place.toList) :
    ∃ rs1, Tp t (t.put (way t.mask x.1 K)).1 (SetTable.insertAt es (t.put (way t.mask x.1 K)).2 x) rs rs1 x := by
  obtain ⟨q1, q2, q3, q4, q5, q6, q7, q8, q9⟩ := T.tab.put hK hb
  rw [q1]
  refine ⟨rs.take (SetTable.below t.place (way t.mask x.1 K)) ++ x :: rs.drop (SetTable.below t.place (way t.mask x.1 K)), ?_, put_perm _ _ _, ?_, q4, q5, ?_⟩
  · rw [SetTable.toList_insertAt, T.es]
  · rw [List.map_append, List.map_cons, List.map_take, List.map_drop]; exact q3
  · rw [q9, List.length_map]
theorem Tp.size {t t1 : SetTable} {es1 : Array (Int × Value)} {rs rs1 : List (Int × Value)} {x : Int × Value} (T : Tp t t1 es1 rs rs1 x) : es1.size = rs.length + 1 := by
  rw [← Array.length_toList, T.es, T.pm.length_eq, List.length_cons]
/-- .. and there is room -/
theorem Tp.stay {t1 : SetTable} {es1 : Array (Int × Value)} {rs1 : List (Int × Value)} {x : Int × Value} (T : Tb w t es rs) (N : Tp t t1 es1 rs rs1 x) (b : Bool) (hf : ¬ t1.tooFull = true) (few : rs.length + 1 < 64) : Tb w { t1 with plain := b } es1 rs1 := by
  have hl : rs1.length = rs.length + 1 := by rw [N.pm.length_eq, List.length_cons]
  refine ⟨N.es, plain_tab N.tab b, by rcases T.led with z | z; exact .inl z; exact .inr (N.led.trans z), ?_, by omega⟩
  have h := hf
  unfold SetTable.tooFull at h
  rw [decide_eq_true_eq, N.fill] at h
  show rs1.length * 5 < t1.mask * 3
  omega
theorem range_all {α : Type} (xs : List α) : (List.range xs.length).filterMap (fun i => xs[i]?) = xs := by
  have e : (List.range xs.length).map (fun i => xs[i]?) = xs.map some := by
    apply List.ext_getElem?
    intro i
    rw [List.getElem?_map, List.getElem?_map]
    by_cases h : i < xs.length
    · simp [h]
    · simp [h]
  have e2 : ((List.range xs.length).map (fun i => xs[i]?)).filterMap id = xs := by
    rw [e, List.filterMap_map]
    exact List.filterMap_some
  rw [List.filterMap_map] at e2
  exact e2
theorem order_fst (xs : List (Int × Value)) : ∀ l : List Nat, (∀ i ∈ l, i < xs.length) → (l.filterMap fun i => xs[i]?).map (·.1) = l.map fun i => ((xs.map (·.1))[i]?).getD 0
  | [], _ => rfl
  | i :: l, h => by
    have hi := h i List.mem_cons_self
    rw [List.filterMap_cons_some (List.getElem?_eq_getElem hi), List.map_cons, List.map_cons, order_fst xs l fun j hj => h j (List.mem_cons_of_mem _ hj)]
    congr 1
    simp [hi]
theorem Tp.relay {t1 : SetTable} {es1 : Array (Int × Value)} {rs1 : List (Int × Value)} {x : Int × Value} (T : Tb w t es rs) (N : Tp t t1 es1 rs rs1 x) (b : Bool) (hf : t1.tooFull = true) (few : rs.length + 1 < 64) :
    ∃ t2 order, SetTable.relaid { t1 with plain := b } (es1.map (·.1)) (SetTable.grown es1.size) = some (t2, order) ∧ (order.filterMap (es1[·]?)).size = es1.size ∧ coversAll order es1.size = true ∧ SetTable.sizeAbove (SetTable.grown es1.size) ≤ sizeLine ∧
      t2.fits (order.filterMap (es1[·]?)).size = true ∧ ∃ rs2, rs2.Perm rs1 ∧ Tb w t2 (order.filterMap (es1[·]?)) rs2 := by
  have hsz := N.size
  have hl : rs1.length = rs.length + 1 := by rw [N.pm.length_eq, List.length_cons]
  have full : (rs.length + 1) * 5 ≥ t1.mask * 3 := by
    have h := hf
    unfold SetTable.tooFull at h
    rw [decide_eq_true_eq, N.fill] at h
    exact h
  have room := T.room
  have two : (t.mask = 7 ∧ rs.length = 4) ∨ (t.mask = 31 ∧ rs.length = 18) := by
    rw [N.mask] at full
    rcases T.tab.mok with e | e | e <;> rw [e] at full room <;> omega
  obtain ⟨M, hM, hw, hz, hr⟩ : ∃ M, MaskOk M ∧ SetTable.sizeAbove (SetTable.grown es1.size) - 1 = M ∧ SetTable.sizeAbove (SetTable.grown es1.size) ≤ sizeLine ∧ rs1.length * 5 < M * 3 := by
    rcases two with ⟨_, e⟩ | ⟨_, e⟩
    · refine ⟨31, .inr (.inl rfl), ?_, ?_, by omega⟩ <;> rw [hsz, e, size_20] <;> decide
    · refine ⟨127, .inr (.inr rfl), ?_, ?_, by omega⟩ <;> rw [hsz, e, size_76] <;> decide
  obtain ⟨t2, order, e, hp, tb, em, el, _, _⟩ := relaid_ok { t1 with plain := b } (hs := es1.map (·.1)) hw hM (by rw [Array.size_map, hsz]; omega)
  rw [Array.size_map] at hp
  have hes : es1.size = rs1.length := by rw [hsz, hl]
  have lst : (order.filterMap (es1[·]?)).toList = order.toList.filterMap fun i => rs1[i]? := by
    rw [Array.toList_filterMap]
    congr 1
    funext i
    rw [← Array.getElem?_toList, N.es]
  have pm : (order.toList.filterMap fun i => rs1[i]?).Perm rs1 := by
    have h := hp.filterMap fun i => rs1[i]?
    rw [hes, range_all] at h
    exact h
  have sz : (order.filterMap (es1[·]?)).size = es1.size := by rw [← Array.length_toList, lst, pm.length_eq, hes]
  have tb2 : TabOk t2 ((order.toList.filterMap fun i => rs1[i]?).map (·.1)) := by
    rw [order_fst rs1 order.toList fun i hi => by have := List.mem_range.mp (hp.mem_iff.mp hi); omega]
    have : (fun i => (es1.map (·.1)).getD i 0) = fun i => ((rs1.map (·.1))[i]?).getD 0 := by
      funext i
      rw [Array.getD_eq_getD_getElem?, ← Array.getElem?_toList, Array.toList_map, N.es]
    rw [← this]
    exact tb
  have tt : Tb w t2 (order.filterMap (es1[·]?)) (order.toList.filterMap fun i => rs1[i]?) := ⟨lst, tb2, by rw [el]; rcases T.led with z | z; exact .inl z; exact .inr (N.led.trans z), by rw [pm.length_eq, em]; exact hr, by rw [pm.length_eq]; omega⟩
  exact ⟨t2, order, e, sz, by unfold coversAll; exact List.isPerm_iff.mpr hp, hz, tt.fits, _, pm, tt⟩
end
end T2
end
section
set_option Elab.async false
set_option linter.all false
set_option autoImplicit false
set_option maxRecDepth 100000
namespace T2
open PySem PySem.Spec L2
open PyProof.Rows hiding St

section
variable {P : Program} {w : World} {κ : Type} [DecidableEq κ] {knd : KeyKind P w κ} {A : Around} {E : Value → Shared → Prop} {s : Shared}
/-! ### tuples as members -/
theorem byVal_class {v : Value} (h : carriedByValue v = true) (n : Nat) : ofAClassStatement n v = pure false := by
  cases v <;> first | (cases h; done) | (cases n <;> rfl)
theorem tup_class {k : List κ} {b : Addr} {Q : Bool → Shared → Prop} (hk : IsTupleKey knd s.heap k b) (h : Q false s) : wpAny (model P w) A (ofAClassStatement 8 (.ref b)) Q E s := by
  have hT := hk.typeIs
  obtain ⟨o, its, n, ho, _, hd, hi⟩ := hk
  unfold ofAClassStatement
  refine wpAny_bind (wpAny_typeOf hT ?_)
  dsimp only
  simp only [show (("tuple" : String) == "tuple") = true from by decide, if_true, Bool.not_true, Bool.false_eq_true, if_false]
  try refine wpAny_bind (wpAny_pure ?_)
  try simp only [Bool.not_true, Bool.false_eq_true, if_false]
  refine wpAny_bind (m := seqItems? (.ref b)) (wpAny_seqItems ho hd ?_)
  dsimp only
  refine wpAny_bind ?_
  show wpAny _ _ (forIn its _ _) _ _ s
  rw [← Array.forIn_toList]
  refine wpAny_forIn_list _ (fun left r z => r.1 = none ∧ z = s ∧ ∀ u ∈ left, carriedByValue u = true) _ (fun u left r z hz => ?_) (fun r z hz => ?_) _ _ ⟨rfl, rfl, hi.byValue⟩
  · obtain ⟨_, rfl, al⟩ := hz
    rw [byVal_class (al u List.mem_cons_self)]
    refine wpAny_bind (wpAny_pure ?_)
    simp only [Bool.false_eq_true, if_false]
    exact wpAny_pure ⟨rfl, rfl, fun y hy => al y (List.mem_cons_of_mem _ hy)⟩
  · obtain ⟨r1, r2⟩ := r
    obtain ⟨hr, rfl, _⟩ := hz
    simp only at hr
    subst hr
    exact wpAny_pure h
/-- whether its hash is by its value: one or the other -/
theorem hash_by {v : Value} (h : carriedByValue v = true) (n : Nat) : ∃ b, hashByValue n v = pure b := by
  cases v <;> first | (cases h; done) | (cases n <;> exact ⟨_, rfl⟩)
theorem tup_by {k : List κ} {b : Addr} {Q : Bool → Shared → Prop} (hk : IsTupleKey knd s.heap k b) (h : ∀ c, Q c s) : wpAny (model P w) A (hashByValue 8 (.ref b)) Q E s := by
  have hT := hk.typeIs
  obtain ⟨o, its, n, ho, _, hd, hi⟩ := hk
  unfold hashByValue
  refine wpAny_bind (wpAny_specialOf hT F.slot_tuple_hash.lookup ?_)
  refine wpAny_bind (m := seqItems? (.ref b)) (wpAny_seqItems ho hd ?_)
  refine wpAny_bind ?_
  show wpAny _ _ (forIn its _ _) _ _ s
  rw [← Array.forIn_toList]
  refine wpAny_forIn_list _ (fun left (r : Option Bool × PUnit) z => z = s ∧ ∀ u ∈ left, carriedByValue u = true) _ (fun u left r z hz => ?_) (fun r z hz => ?_) _ _ ⟨rfl, hi.byValue⟩
  · obtain ⟨rfl, al⟩ := hz
    obtain ⟨c, hc⟩ := hash_by (al u List.mem_cons_self) 7
    rw [hc]
    refine wpAny_bind (wpAny_pure ?_)
    cases c with
    | true =>
      simp only [Bool.not_true, Bool.false_eq_true, if_false]
      exact wpAny_pure ⟨rfl, fun y hy => al y (List.mem_cons_of_mem _ hy)⟩
    | false =>
      simp only [Bool.not_false, if_true]
      exact wpAny_pure (wpAny_pure (h false))
  · obtain ⟨r1, r2⟩ := r
    obtain ⟨rfl, _⟩ := hz
    cases r1 with
    | none => exact wpAny_pure (h true)
    | some c => exact wpAny_pure (h c)
theorem tup_seen {k : List κ} {b : Addr} {Q : Bool → Shared → Prop} (hk : IsTupleKey knd s.heap k b) {ys : List Value} (hy : ∀ y ∈ ys, ∃ k' c, y = Value.ref c ∧ IsTupleKey knd s.heap k' c) (h : Q false s) :
    wpAny (model P w) A (searchCouldBeSeen (.ref b) ys) Q E s := by
  unfold searchCouldBeSeen
  refine wpAny_bind ?_
  refine wpAny_forIn_list _ (fun left r z => r.1 = none ∧ z = s ∧ ∀ y ∈ left, ∃ k' c, y = Value.ref c ∧ IsTupleKey knd s.heap k' c) _ (fun u left r z hz => ?_) (fun r z hz => ?_) _ _ ⟨rfl, rfl, hy⟩
  · obtain ⟨_, rfl, al⟩ := hz
    obtain ⟨k', c, rfl, hc⟩ := al u List.mem_cons_self
    have go : wpAny (model P w) A (pure (ForInStep.yield ((none : Option Bool), PUnit.unit)) : Sem (ForInStep (Option Bool × PUnit))) (fun r z' => match r with | .yield b' => b'.1 = none ∧ z' = z ∧ ∀ y ∈ left, ∃ k' c, y = Value.ref c ∧ IsTupleKey knd z.heap k' c | .done b' => False) E z := wpAny_pure ⟨rfl, rfl, fun y hy => al y (List.mem_cons_of_mem _ hy)⟩
    dsimp only
    by_cases hv : (b == c || (carriedByValue (.ref b) && carriedByValue (.ref c))) = true
    · refine wp_if_pos hv ?_
      exact wpAny_pure ⟨rfl, rfl, fun y hy => al y (List.mem_cons_of_mem _ hy)⟩
    · refine wp_if_neg hv ?_
      refine wpAny_bind (wpAny_eqIsQuiet_tuple hk ?_)
      simp only [Bool.not_true, Bool.false_eq_true, if_false]
      refine wpAny_bind (wpAny_eqIsQuiet_tuple hc ?_)
      simp only [Bool.not_true, Bool.false_eq_true, if_false]
      refine wpAny_bind (tup_class hk ?_)
      simp only [Bool.false_eq_true, if_false]
      refine wpAny_bind (tup_class hc ?_)
      simp only [Bool.false_eq_true, if_false]
      exact wpAny_pure ⟨rfl, rfl, fun y hy => al y (List.mem_cons_of_mem _ hy)⟩
  · obtain ⟨r1, r2⟩ := r
    obtain ⟨hr, rfl, _⟩ := hz
    simp only at hr
    subst hr
    exact wpAny_pure h

/-! ### the search -/
abbrev tH (knd : KeyKind P w κ) (k : List κ) : Int := tupleKeyHash knd k
def tRow (knd : KeyKind P w κ) (p : Addr × List κ) : Int × Value := (tH knd p.2, .ref p.1)
/-- the set at a has the tuples L -/
structure TSet (knd : KeyKind P w κ) (h : Heap) (a : Addr) (L : List (Addr × List κ)) (es : Array (Int × Value)) (ep : Nat) (t : SetTable) : Prop where
  ob : ∃ o, h.get? a = some o ∧ o.ExactSet ∧ o.data = .set es ep t
  tb : Tb w t es (L.map (tRow knd))
  nd : (L.map (·.2)).Nodup
variable {a : Addr} {L : List (Addr × List κ)} {es : Array (Int × Value)} {ep : Nat} {t : SetTable}
theorem same_mem (t : SetTable) : t.sameMemory t.moves t.mask = some true := by
  unfold SetTable.sameMemory
  rw [if_pos (beq_self_eq_true _)]
/-- the way of a hash -/
abbrev wayP (m : Nat) (h : Int) (k : Nat) : SetTable.Probe := nth m (runAt m (SetTable.bits h % (m + 1)) (SetTable.bits h)) k
theorem wayP_free (m : Nat) (h : Int) (k : Nat) : (wayP m h k).dummy = none := by
  have key : ∀ (n : Nat) (p : SetTable.Probe), p.dummy = none → (nth m p n).dummy = none := fun n => by
    induction n with
    | zero => exact fun p h => h
    | succ n ih =>
      intro p h
      refine ih (adv m p) ?_
      unfold adv
      split <;> exact h
  exact key k _ rfl
theorem wayP_on (m : Nat) (h : Int) (c q : Nat) : nth m (wayP m h c) q = wayP m h (c + q) := (nth_add m c _ q).symm
theorem tsearch (R : TSet knd s.heap a L es ep t) (hL : ∀ p ∈ L, IsTupleKey knd s.heap p.2 p.1) {x : Addr} {k : List κ} (hx : IsTupleKey knd s.heap k x) (hu : A.units < cLine) {K : Nat} (hf : K < 10 * SetTable.turns t.mask)
    (hK : way t.mask (tH knd k) K ∉ t.place.toList) (hb : ∀ c, c < K → way t.mask (tH knd k) c ∈ t.place.toList) {Q : SetFound → Shared → Prop}
    (yes : k ∈ L.map (·.2) → Q (.there none) s) (no : k ∉ L.map (·.2) → Q (.free (way t.mask (tH knd k) K) false) s) :
    ∀ (n c : Nat) (st : Option SetTable.Probe), st.getD (t.probeStart (tH knd k)) = wayP t.mask (tH knd k) c → c ≤ K → K - c < n →
      (∀ (i : Nat) p, L[i]? = some p → p.2 = k → ∃ c', c ≤ c' ∧ c' < K ∧ t.place.toList[i]? = some (way t.mask (tH knd k) c')) → wpAny (model P w) A (setSearchFrom a (.ref x) (tH knd k) true n st) Q E s := by
  obtain ⟨o, ho, hex, hd⟩ := R.ob
  intro n
  induction n with
  | zero => exact fun c st _ _ z _ => absurd z (Nat.not_lt_zero _)
  | succ n ih =>
    intro c st hst hc hn hre
    rw [setSearchFrom_succ]
    refine wpAny_bind (wpAny_setState_of ho hd R.tb.fits ?_)
    dsimp only
    refine wp_if_neg R.tb.odd ?_
    try refine wpAny_bind (wpAny_pure ?_)
    have hAt : ∀ (i : Nat) p, L[i]? = some p → (es[i]?.map (·.1)).getD 0 = tH knd p.2 := fun i p hp => by
      rw [R.tb.at (i := i) (p := tRow knd p) (by rw [List.getElem?_map, hp]; rfl)]; rfl
    have on : ∀ q, (nth t.mask (wayP t.mask (tH knd k) c) q).j = way t.mask (tH knd k) (c + q) := fun q => congrArg SetTable.Probe.j (wayP_on _ _ c q)
    rcases go_spec t R.tb.tab.ris R.tb.tab.dm (fun i => (es[i]?.map (·.1)).getD 0) (tH knd k) (10 * SetTable.turns t.mask) (K - c) _ (wayP_free t.mask (tH knd k) c) (by omega)
      (fun q hq => by rw [on]; exact hb (c + q) (by omega)) (by rw [on, Nat.add_sub_cancel' hc]; exact hK) with ⟨q, i, hq, hi, _, hno, hpr⟩ | ⟨hno, hpr⟩
    · have ep1 : t.probe (fun i => (es[i]?.map (·.1)).getD 0) (tH knd k) (st.getD (t.probeStart (tH knd k))) = some (.candidate (way t.mask (tH knd k) (c + q)) i (wayP t.mask (tH knd k) (c + (q + 1)))) := by
        rw [hst, ← on, ← wayP_on]
        exact hpr
      rw [ep1]
      dsimp only
      rw [on] at hi
      have hil : i < L.length := by
        have h1 := (List.getElem?_eq_some_iff.mp hi).1
        have h2 := R.tb.tab.sz
        rw [List.length_map, List.length_map] at h2
        rw [Array.length_toList] at h1
        omega
      obtain ⟨p, hp⟩ : ∃ p, L[i]? = some p := ⟨L[i], List.getElem?_eq_getElem hil⟩
      have hm : p ∈ L := List.mem_of_getElem? hp
      have he : es[i]? = some (tRow knd p) := R.tb.at (by rw [List.getElem?_map, hp]; rfl)
      have rest : wpAny (model P w) A (searchRest a (.ref x) (tH knd k) true n es t (way t.mask (tH knd k) (c + q)) i (wayP t.mask (tH knd k) (c + (q + 1)))) Q E s := by
        unfold searchRest
        rw [he]
        dsimp only [tRow]
        refine wpAny_bind (wpAny_holding (wpAny_eqBool_tuple hu (hL p hm) hx ?_))
        refine wpAny_bind (wpAny_setState_of ho hd R.tb.fits ?_)
        dsimp only
        by_cases hk : p.2 = k
        · refine wp_if_pos (by simp [hk]) (wpAny_pure (yes ?_))
          exact List.mem_map.mpr ⟨p, hm, hk⟩
        · refine wp_if_neg (by simp [hk]) ?_
          try refine wpAny_bind (wpAny_pure ?_)
          rw [same_mem]
          dsimp only
          have lv : t.slot (way t.mask (tH knd k) (c + q)) = .live i := slot_live R.tb.tab.ris hi
          simp only [if_true, lv, he, tRow]
          refine wpAny_bind (wpAny_isSame_ref_self (wpAny_bind (wpAny_pure ?_)))
          simp only [if_true]
          refine wp_if_neg (by simp [hk]) ?_
          refine ih (c + (q + 1)) _ rfl (by omega) (by omega) fun i' p' h' k' => ?_
          obtain ⟨c', a1, a2, a3⟩ := hre i' p' h' k'
          refine ⟨c', ?_, a2, a3⟩
          have ne : ¬ c' < c + q := fun z => hno (c' - c) i' (by omega) (by rw [on, Nat.add_sub_cancel' a1]; exact a3) (by show (es[i']?.map (·.1)).getD 0 = _; rw [hAt i' p' h', k'])
          have ne2 : c' ≠ c + q := fun z => by
            rw [z] at a3
            have s0 := slot_live R.tb.tab.ris a3
            rw [lv] at s0
            injection s0 with s0
            rw [← s0, hp] at h'
            cases h'
            exact hk k'
          omega
      by_cases hl : t.led = true
      · refine wp_if_neg (by simp [hl]) ?_
        try refine wpAny_bind (wpAny_pure ?_)
        exact rest
      · refine wp_if_pos (by simp [hl]) ?_
        refine wpAny_bind (tup_seen hx (fun y hy => ?_) ?_)
        · obtain ⟨e, h1, rfl⟩ := List.mem_map.mp hy
          have h2 : e ∈ es.toList := by
            have : e ∈ es ∧ e.1 = tH knd k := by simpa using h1
            simpa using this.1
          rw [R.tb.es] at h2
          obtain ⟨p', hp', rfl⟩ := List.mem_map.mp h2
          exact ⟨p'.2, p'.1, rfl, hL p' hp'⟩
        · refine wp_if_neg (by decide) ?_
          try refine wpAny_bind (wpAny_pure ?_)
          exact rest
    · have ep1 : t.probe (fun i => (es[i]?.map (·.1)).getD 0) (tH knd k) (st.getD (t.probeStart (tH knd k))) = some (.empty (way t.mask (tH knd k) K) none) := by
        have e2 : way t.mask (tH knd k) K = (nth t.mask (wayP t.mask (tH knd k) c) (K - c)).j := by rw [on, Nat.add_sub_cancel' hc]
        rw [hst, e2]
        exact hpr
      rw [ep1]
      dsimp only
      refine wpAny_pure (no fun hm => ?_)
      obtain ⟨p', h', k'⟩ := List.mem_map.mp hm
      obtain ⟨i', hi'⟩ := List.mem_iff_getElem?.mp h'
      obtain ⟨c', a1, a2, a3⟩ := hre i' p' hi' k'
      exact hno (c' - c) i' (by omega) (by rw [on, Nat.add_sub_cancel' a1]; exact a3) (by show (es[i']?.map (·.1)).getD 0 = _; rw [hAt i' p' hi', k'])
theorem tsearch_all (R : TSet knd s.heap a L es ep t) (hL : ∀ p ∈ L, IsTupleKey knd s.heap p.2 p.1) {x : Addr} {k : List κ} (hx : IsTupleKey knd s.heap k x) (hu : A.units < cLine) {Q : SetFound → Shared → Prop} (yes : k ∈ L.map (·.2) → Q (.there none) s)
    (no : ∀ K, k ∉ L.map (·.2) → way t.mask (tH knd k) K ∉ t.place.toList → (∀ c, c < K → way t.mask (tH knd k) c ∈ t.place.toList) → Q (.free (way t.mask (tH knd k) K) false) s) : wpAny (model P w) A (setSearch a (.ref x) (tH knd k) true) Q E s := by
  have room := R.tb.room
  obtain ⟨K, hf, hK, hb⟩ := R.tb.tab.first (by rw [List.length_map]; omega) (tH knd k)
  have big : K < 100000 := by
    have : 10 * SetTable.turns t.mask ≤ 1420 := by
      unfold SetTable.turns
      rcases R.tb.tab.mok with e | e | e <;> omega
    omega
  unfold setSearch
  refine tsearch R hL hx hu hf hK hb yes (fun z => no K z hK hb) 100000 0 none rfl (Nat.zero_le _) (by omega) fun i p hp hk => ?_
  have hi : ((L.map (tRow knd)).map (·.1))[i]? = some (tH knd k) := by rw [List.getElem?_map, List.getElem?_map, hp, ← hk]; rfl
  obtain ⟨j, hj⟩ : ∃ j, t.place.toList[i]? = some j := by
    have h1 := (List.getElem?_eq_some_iff.mp hp).1
    have h2 := R.tb.tab.sz
    rw [List.length_map, List.length_map] at h2
    exact ⟨_, List.getElem?_eq_getElem (by rw [Array.length_toList]; omega)⟩
  obtain ⟨c, h1, h2⟩ := R.tb.tab.before hK hi hj
  exact ⟨c, Nat.zero_le _, h1, by rw [hj, h2]⟩
end
end T2
end
section
set_option Elab.async false
set_option linter.all false
set_option autoImplicit false
set_option maxRecDepth 100000
namespace T2
open PySem PySem.Spec L2
open PyProof.Rows hiding St

section
variable {P : Program} {w : World} {κ : Type} [DecidableEq κ] {knd : KeyKind P w κ} {A : Around} {E : Value → Shared → Prop} {s : Shared}
variable {a : Addr} {L : List (Addr × List κ)} {es : Array (Int × Value)} {ep : Nat} {t : SetTable}
theorem perm_row {L : List (Addr × List κ)} {rs : List (Int × Value)} (pm : rs.Perm (L.map (tRow knd))) : ∃ L' : List (Addr × List κ), rs = L'.map (tRow knd) ∧ L'.Perm L := by
  induction rs generalizing L with
  | nil =>
    have : L = [] := by simpa using pm.symm.eq_nil
    subst this
    exact ⟨[], rfl, .refl _⟩
  | cons r rs ih =>
    obtain ⟨p, hp, rfl⟩ := List.mem_map.mp (pm.mem_iff.mp List.mem_cons_self)
    obtain ⟨l1, l2, rfl⟩ := List.append_of_mem hp
    have pm2 : rs.Perm ((l1 ++ l2).map (tRow knd)) := by
      have h1 : (tRow knd p :: rs).Perm (tRow knd p :: (l1 ++ l2).map (tRow knd)) := by
        refine pm.trans ?_
        simp only [List.map_append, List.map_cons]
        exact List.perm_middle
      exact h1.cons_inv
    obtain ⟨L', e, q⟩ := ih pm2
    exact ⟨p :: L', by rw [List.map_cons, e], (q.cons p).trans List.perm_middle.symm⟩
/-- one is added -/
theorem tset_add (R : TSet knd s.heap a L es ep t) (hL : ∀ p ∈ L, IsTupleKey knd s.heap p.2 p.1) {x : Addr} {k : List κ} (hx : IsTupleKey knd s.heap k x) (hu : A.units < cLine) (few : L.length + 1 < 64) {Q : Bool → Shared → Prop}
    (hQ : ∀ b h' L' es' ep' t', Heap.SameBut a s.heap h' → TSet knd h' a L' es' ep' t' → (k ∈ L.map (·.2) → L' = L) → (k ∉ L.map (·.2) → L'.Perm ((x, k) :: L)) → Q b { s with heap := h' }) :
    wpAny (model P w) A (setAddHashed a (.ref x) (tH knd k)) Q E s := by
  obtain ⟨o, ho, hex, hd⟩ := R.ob
  unfold setAddHashed
  refine wpAny_holding ?_
  rw [show (100000 : Nat) = 99999 + 1 from rfl, setAddHashedIn_succ]
  refine wpAny_bind (wpAny_setState_of ho hd R.tb.fits ?_)
  dsimp only
  refine wp_if_neg (by simp [byScan, Value.scannable]) ?_
  try refine wpAny_bind (wpAny_pure ?_)
  refine wpAny_bind (tsearch_all R hL hx hu (fun hm => ?_) fun K hm hK hb => ?_)
  · exact wpAny_pure (hQ false s.heap L es ep t (Heap.SameBut.refl a s.heap) R (fun _ => rfl) fun z => absurd hm z)
  · dsimp only
    refine wpAny_bind (wpAny_setState_of ho hd R.tb.fits ?_)
    dsimp only
    obtain ⟨rs1, N⟩ := R.tb.put (x := (tH knd k, .ref x)) hK hb
    dsimp only at N
    have sz := N.size
    rw [List.length_map] at sz
    generalize t.put (way t.mask (tH knd k) K) = pt at N sz ⊢
    obtain ⟨t1, p⟩ := pt
    dsimp only at N sz ⊢
    have main : ∀ b : Bool, wpAny (model P w) A (do storeSet a (SetTable.insertAt es p (tH knd k, .ref x)) { t1 with plain := b }; if (!false && SetTable.tooFull { t1 with plain := b }) = true then (do setRelay a (SetTable.grown (es.size + 1)); pure true) else pure true) Q E s := fun b => by
      refine wpAny_bind (wpAny_storeSet_of ho hd ?_ (by rw [sz, sizeLine_eq]; omega))
      have sb : Heap.SameBut a s.heap (s.heap.update a (Obj.putSet (SetTable.insertAt es p (tH knd k, .ref x)) { t1 with plain := b })) := Heap.SameBut.update ..
      have ho1 := store_at (es' := SetTable.insertAt es p (tH knd k, .ref x)) (t' := { t1 with plain := b }) ho hd
      generalize s.heap.update a (Obj.putSet (SetTable.insertAt es p (tH knd k, .ref x)) { t1 with plain := b }) = h1 at sb ho1 ⊢
      obtain ⟨L1, rfl, pm1⟩ := perm_row (L := (x, k) :: L) N.pm
      have nd1 : ∀ {L2 : List (Addr × List κ)}, L2.Perm ((x, k) :: L) → (L2.map (·.2)).Nodup := fun pm => by
        refine (pm.map (·.2)).nodup_iff.mpr ?_
        rw [List.map_cons]
        exact List.nodup_cons.mpr ⟨hm, R.nd⟩
      by_cases hf : t1.tooFull = true
      · refine wp_if_pos (show (!false && t1.tooFull) = true by simpa using hf) ?_
        obtain ⟨t2, order, e, e1, _, e3, _, rs2, pm2, T2⟩ := Tp.relay R.tb N b hf (by rw [List.length_map]; exact few)
        obtain ⟨L2, rfl, pm3⟩ := perm_row pm2
        have fit : SetTable.fits { t1 with plain := b } (SetTable.insertAt es p (tH knd k, .ref x)).size = true := tab_fits N.es (plain_tab N.tab b) (by
          have h1 := N.mask
          have h2 := R.tb.room
          have h3 := N.pm.length_eq
          simp only [List.length_map, List.length_cons] at h2 h3 ⊢
          rcases R.tb.tab.mok with z | z | z <;> rw [z] at h1 h2 <;> show _ ≤ t1.mask <;> omega)
        refine wpAny_bind ?_
        rw [setRelay_eq]
        rw [R.tb.size, List.length_map]
        rw [sz] at e e3 fit
        refine wpAny_bind (wpAny_setState_of (s := { s with heap := h1 }) ho1 rfl (by rw [sz]; exact fit) ?_)
        dsimp only
        refine wp_if_neg (by omega) ?_
        try refine wpAny_bind (wpAny_pure ?_)
        rw [e]
        dsimp only
        refine wpAny_bind ?_
        refine wp_if_neg (by rw [e1]; simp) ?_
        try refine wpAny_bind (wpAny_pure ?_)
        refine wpAny_pure ?_
        dsimp only
        refine wpAny_storeSet_of (s := { s with heap := h1 }) ho1 rfl ?_ (by rw [e1, sz, sizeLine_eq]; omega)
        have sb2 : Heap.SameBut a h1 (h1.update a (Obj.putSet (order.filterMap ((SetTable.insertAt es p (tH knd k, .ref x))[·]?)) t2)) := Heap.SameBut.update ..
        refine wpAny_pure (hQ true _ L2 _ _ t2 (sb.trans sb2) ⟨⟨_, store_at ho1 rfl, ⟨hex.1, hex.2.1, hex.2.2⟩, rfl⟩, T2, nd1 (pm3.trans pm1)⟩ (fun z => absurd z hm) fun _ => pm3.trans pm1)
      · refine wp_if_neg (show ¬ (!false && t1.tooFull) = true by simpa using hf) ?_
        exact wpAny_pure (hQ true h1 L1 _ (ep + 1) _ sb ⟨⟨_, ho1, ⟨hex.1, hex.2.1, hex.2.2⟩, rfl⟩, Tp.stay R.tb N b hf (by rw [List.length_map]; exact few), nd1 pm1⟩ (fun z => absurd z hm) fun _ => pm1)
    by_cases pl : t1.plain = true
    · refine wp_if_pos pl (wpAny_bind (tup_by hx fun c => ?_))
      cases c with
      | true => exact main t1.plain
      | false => exact main false
    · refine wp_if_neg pl (wpAny_bind (wpAny_pure ?_))
      exact main t1.plain
end
end T2
end
section
set_option Elab.async false
set_option linter.all false
set_option autoImplicit false
set_option maxRecDepth 100000
namespace T2
open PySem PySem.Spec L2
open PyProof.Rows hiding St

section
variable {P : Program} {w : World} {A : Around} {E : Value → Shared → Prop} {s : Shared}
variable {a : Addr} {L : List (Str × Tok)} {es : Array (Int × Value)} {ep : Nat} {t : SetTable}
abbrev sH (w : World) (x : Str) : Int := keyH w (Sum.inr x)
def sRow (w : World) (p : Str × Tok) : Int × Value := (sH w p.1, .str p.1 p.2)
/-- the set at a has the texts L -/
structure SSet (w : World) (h : Heap) (a : Addr) (L : List (Str × Tok)) (es : Array (Int × Value)) (ep : Nat) (t : SetTable) : Prop where
  ob : ∃ o, h.get? a = some o ∧ o.ExactSet ∧ o.data = .set es ep t
  tb : Tb w t es (L.map (sRow w))
  nd : (L.map (·.1)).Nodup
theorem perm_sRow {L : List (Str × Tok)} {rs : List (Int × Value)} (pm : rs.Perm (L.map (sRow w))) : ∃ L' : List (Str × Tok), rs = L'.map (sRow w) ∧ L'.Perm L := by
  induction rs generalizing L with
  | nil =>
    have : L = [] := by simpa using pm.symm.eq_nil
    subst this
    exact ⟨[], rfl, .refl _⟩
  | cons r rs ih =>
    obtain ⟨p, hp, rfl⟩ := List.mem_map.mp (pm.mem_iff.mp List.mem_cons_self)
    obtain ⟨l1, l2, rfl⟩ := List.append_of_mem hp
    have pm2 : rs.Perm ((l1 ++ l2).map (sRow w)) := by
      have h1 : (sRow w p :: rs).Perm (sRow w p :: (l1 ++ l2).map (sRow w)) := by
        refine pm.trans ?_
        simp only [List.map_append, List.map_cons]
        exact List.perm_middle
      exact h1.cons_inv
    obtain ⟨L', e, q⟩ := ih pm2
    exact ⟨p :: L', by rw [List.map_cons, e], (q.cons p).trans List.perm_middle.symm⟩
theorem free_way {hs : List Int} (T : TabOk t hs) (hl : hs.length ≤ t.mask) (h : Int) : ∃ K, way t.mask h K ∉ t.place.toList ∧ (∀ c, c < K → way t.mask h c ∈ t.place.toList) ∧ t.freeSlot h = some (way t.mask h K, false) := by
  obtain ⟨K, hf, hK, hb⟩ := T.first hl h
  refine ⟨K, hK, hb, ?_⟩
  rcases go_spec t T.ris T.dm (fun _ => h + 1) h (10 * SetTable.turns t.mask) K _ (wayP_free t.mask h 0) hf (fun q hq => by rw [wayP_on, Nat.zero_add]; exact hb q hq) (by rw [wayP_on, Nat.zero_add]; exact hK) with ⟨q, i, _, _, z, _⟩ | ⟨_, hpr⟩
  · exact absurd z (by omega)
  · rw [wayP_on, Nat.zero_add] at hpr
    have e : t.probe (fun _ => h + 1) h (t.probeStart h) = some (.empty (way t.mask h K) none) := hpr
    unfold SetTable.freeSlot
    rw [e]
    rfl
theorem sset_add (R : SSet w s.heap a L es ep t) {x : Str} {k : Tok} (few : L.length + 1 < 64) {Q : Bool → Shared → Prop}
    (hQ : ∀ b h' L' es' ep' t', Heap.SameBut a s.heap h' → SSet w h' a L' es' ep' t' → (x ∈ L.map (·.1) → L' = L) → (x ∉ L.map (·.1) → L'.Perm ((x, k) :: L)) → Q b { s with heap := h' }) :
    wpAny (model P w) A (setAddHashed a (.str x k) (sH w x)) Q E s := by
  obtain ⟨o, ho, hex, hd⟩ := R.ob
  unfold setAddHashed
  refine wpAny_holding ?_
  rw [show (100000 : Nat) = 99999 + 1 from rfl, setAddHashedIn_succ]
  refine wpAny_bind (wpAny_setState_of ho hd R.tb.fits ?_)
  dsimp only
  have sc : byScan (.str x k) es = true := by
    have h1 := R.tb.size
    have h2 := R.tb.few
    unfold byScan
    rw [Bool.and_eq_true, Bool.and_eq_true, decide_eq_true_eq]
    refine ⟨⟨rfl, by unfold scanBound; omega⟩, ?_⟩
    rw [← Array.all_toList, R.tb.es, List.all_eq_true]
    intro e he
    obtain ⟨p, _, rfl⟩ := List.mem_map.mp he
    rfl
  refine wp_if_pos sc ?_
  have ex : es.all (fun e => isExactStrKey e.2) = true := by
    rw [← Array.all_toList, R.tb.es, List.all_eq_true]
    intro e he
    obtain ⟨p, _, rfl⟩ := List.mem_map.mp he
    rfl
  unfold setAddByScan
  refine wpAny_bind (wpAny_bind (wpAny_rule ?_))
  refine wpAny_bind ?_
  show wpAny _ _ (if es.all (fun e => isExactStrKey e.2) = true then setScanStrs a (.str x k) x true es else _) _ _ s
  refine wp_if_pos ex ?_
  unfold setScanStrs
  by_cases hm : x ∈ L.map (·.1)
  · obtain ⟨i, hi⟩ : ∃ i, es.findIdx? (·.2.isStr x) = some i := by
      rw [← Option.isSome_iff_exists, Array.findIdx?_isSome]
      obtain ⟨p, hp, rfl⟩ := List.mem_map.mp hm
      rw [← Array.any_toList, R.tb.es, List.any_eq_true]
      exact ⟨sRow w p, List.mem_map.mpr ⟨p, hp, rfl⟩, by simp [sRow, Value.isStr]⟩
    rw [hi]
    dsimp only
    have hi2 := Array.findIdx?_eq_some_iff_getElem.mp hi
    obtain ⟨hlt, hv, _⟩ := hi2
    have hes : es[i]? = some es[i] := Array.getElem?_eq_getElem hlt
    have hmem : es[i] ∈ L.map (sRow w) := by
      rw [← R.tb.es]
      exact Array.getElem_mem_toList hlt
    obtain ⟨p, hp, e⟩ := List.mem_map.mp hmem
    rw [hes]
    rw [← e] at hv ⊢
    have ex2 : p.1 = x := by simpa [sRow, Value.isStr] using hv
    dsimp only [sRow]
    refine wpAny_bind (wpAny_setEpoch_of ho hd R.tb.fits ?_)
    refine wpAny_bind (wpAny_eqBool_str ?_)
    rw [ex2]
    simp only [decide_true, Bool.and_true, if_true]
    refine wpAny_pure (wpAny_pure (wpAny_pure ?_))
    exact hQ false s.heap L es ep t (Heap.SameBut.refl a s.heap) R (fun _ => rfl) fun z => absurd hm z
  · have hi : es.findIdx? (·.2.isStr x) = none := by
      rw [Array.findIdx?_eq_none_iff]
      intro e he
      have he2 : e ∈ es.toList := by simpa using he
      rw [R.tb.es] at he2
      obtain ⟨p, hp, rfl⟩ := List.mem_map.mp he2
      have : p.1 ≠ x := fun z => hm (List.mem_map.mpr ⟨p, hp, z⟩)
      simpa [sRow, Value.isStr] using this
    rw [hi]
    dsimp only
    refine wpAny_pure ?_
    dsimp only
    have room := R.tb.room
    obtain ⟨K, hK, hb, hfr⟩ := free_way R.tb.tab (by rw [List.length_map]; omega) (sH w x)
    obtain ⟨rs1, N⟩ := R.tb.put (x := (sH w x, .str x k)) hK hb
    dsimp only at N
    have sz := N.size
    rw [List.length_map] at sz
    have lay : layNew t es (sH w x) (.str x k) = (SetTable.insertAt es (t.put (way t.mask (sH w x) K)).2 (sH w x, .str x k), (t.put (way t.mask (sH w x) K)).1, false, false) := by
      have fit : (t.put (way t.mask (sH w x) K)).1.fits (SetTable.insertAt es (t.put (way t.mask (sH w x) K)).2 (sH w x, .str x k)).size = true := tab_fits N.es N.tab (by
        have h1 := N.mask
        have h3 := N.pm.length_eq
        simp only [List.length_map, List.length_cons] at h3 room ⊢
        rw [h1]
        rcases R.tb.tab.mok with z | z | z <;> rw [z] at room ⊢ <;> omega)
      unfold layNew
      rw [hfr]
      dsimp only
      rw [fit]
      unfold SetTable.orStandIn
      rw [if_pos fit]
      rfl
    rw [lay]
    dsimp only
    generalize t.put (way t.mask (sH w x) K) = pt at N sz ⊢
    obtain ⟨t1, p⟩ := pt
    dsimp only at N sz ⊢
    refine wpAny_bind (wpAny_pure ?_)
    have main : ∀ (g : Bool → Sem Unit), g false = pure () → ∀ b : Bool, wpAny (model P w) A (do
        storeSet a (SetTable.insertAt es p (sH w x, .str x k)) { t1 with plain := b }
        if (!false && SetTable.tooFull { t1 with plain := b }) = true then do
          g (relayAll { t1 with plain := b } (SetTable.insertAt es p (sH w x, .str x k)) (SetTable.grown (SetTable.insertAt es p (sH w x, .str x k)).size)).2.2
          storeSet a (relayAll { t1 with plain := b } (SetTable.insertAt es p (sH w x, .str x k)) (SetTable.grown (SetTable.insertAt es p (sH w x, .str x k)).size)).1 (relayAll { t1 with plain := b } (SetTable.insertAt es p (sH w x, .str x k)) (SetTable.grown (SetTable.insertAt es p (sH w x, .str x k)).size)).2.1
          pure (some true)
        else pure (some true)) (fun r s' => wpAny (model P w) A (match r with | some added => pure added | none => setAddHashedIn a (.str x k) (sH w x) 99999) Q E s') E s := fun g hg b => by
      refine wpAny_bind (wpAny_storeSet_of ho hd ?_ (by rw [sz, sizeLine_eq]; omega))
      have sb : Heap.SameBut a s.heap (s.heap.update a (Obj.putSet (SetTable.insertAt es p (sH w x, .str x k)) { t1 with plain := b })) := Heap.SameBut.update ..
      have ho1 := store_at (es' := SetTable.insertAt es p (sH w x, .str x k)) (t' := { t1 with plain := b }) ho hd
      generalize s.heap.update a (Obj.putSet (SetTable.insertAt es p (sH w x, .str x k)) { t1 with plain := b }) = h1 at sb ho1 ⊢
      obtain ⟨L1, rfl, pm1⟩ := perm_sRow (L := (x, k) :: L) N.pm
      have nd1 : ∀ {L2 : List (Str × Tok)}, L2.Perm ((x, k) :: L) → (L2.map (·.1)).Nodup := fun pm => by
        refine (pm.map (·.1)).nodup_iff.mpr ?_
        rw [List.map_cons]
        exact List.nodup_cons.mpr ⟨hm, R.nd⟩
      by_cases hf : t1.tooFull = true
      · refine wp_if_pos (show (!false && t1.tooFull) = true by simpa using hf) ?_
        obtain ⟨t2, order, e, e1, e2, e3, e4, rs2, pm2, T2⟩ := Tp.relay R.tb N b hf (by rw [List.length_map]; exact few)
        obtain ⟨L2, rfl, pm3⟩ := perm_sRow pm2
        have ra : relayAll { t1 with plain := b } (SetTable.insertAt es p (sH w x, .str x k)) (SetTable.grown (SetTable.insertAt es p (sH w x, .str x k)).size) = (order.filterMap ((SetTable.insertAt es p (sH w x, .str x k))[·]?), t2, false) := by
          unfold relayAll
          rw [e]
          dsimp only
          rw [if_pos (by rw [e2, e4]; rfl)]
        rw [ra]
        dsimp only
        rw [hg]
        refine wpAny_bind (wpAny_pure ?_)
        refine wpAny_bind (wpAny_storeSet_of (s := { s with heap := h1 }) ho1 rfl ?_ (by rw [e1, sz, sizeLine_eq]; omega))
        have sb2 : Heap.SameBut a h1 (h1.update a (Obj.putSet (order.filterMap ((SetTable.insertAt es p (sH w x, .str x k))[·]?)) t2)) := Heap.SameBut.update ..
        exact wpAny_pure (wpAny_pure (hQ true _ L2 _ _ t2 (sb.trans sb2) ⟨⟨_, store_at ho1 rfl, ⟨hex.1, hex.2.1, hex.2.2⟩, rfl⟩, T2, nd1 (pm3.trans pm1)⟩ (fun z => absurd z hm) fun _ => pm3.trans pm1))
      · refine wp_if_neg (show ¬ (!false && t1.tooFull) = true by simpa using hf) ?_
        exact wpAny_pure (wpAny_pure (hQ true h1 L1 _ (ep + 1) _ sb ⟨⟨_, ho1, ⟨hex.1, hex.2.1, hex.2.2⟩, rfl⟩, Tp.stay R.tb N b hf (by rw [List.length_map]; exact few), nd1 pm1⟩ (fun z => absurd z hm) fun _ => pm1))
    by_cases pl : t1.plain = true
    · refine wp_if_pos pl (wpAny_bind (m := hashByValue 8 (.str x k)) (wpAny_pure ?_))
      exact main _ rfl false
    · refine wp_if_neg pl (wpAny_bind (wpAny_pure ?_))
      exact main _ rfl t1.plain
end
end T2
end
section
set_option Elab.async false
set_option linter.all false
set_option autoImplicit false
set_option maxRecDepth 100000
namespace T2
open PySem PySem.Spec L2
open PyProof.Rows hiding St

/-- a kind of members: what is known of a set of them -/
structure Mb (P : Program) (w : World) (ι κ : Type) where
  val : ι → Value
  key : ι → κ
  is : Heap → ι → Prop
  inv : Heap → Addr → List ι → Prop
  keepIs : ∀ {h h' : Heap} {x : ι}, is h x → (∀ c o, h.get? c = some o → h'.get? c = some o) → is h' x
  keep : ∀ {h h' : Heap} {a : Addr} {L : List ι}, inv h a L → (∀ o, h.get? a = some o → h'.get? a = some o) → inv h' a L
  fresh : ∀ {h : Heap} {a : Addr}, h.get? a = some { cls := .type "set", dict := none, data := .set #[] 0 (.fresh 0 0 (!w.params.followText "set-order")) } → inv h a []
  add : ∀ {A : Around} {E : Value → Shared → Prop} {s : Shared} {a : Addr} {L : List ι} {x : ι} {Q : Bool → Shared → Prop}, inv s.heap a L → (∀ p ∈ L, is s.heap p) → is s.heap x → A.units < cLine → L.length + 1 < 64 →
    (∀ b h' L' tk, s.toks ≤ tk → Heap.SameBut a s.heap h' → inv h' a L' → (key x ∈ L.map key → L' = L) → (key x ∉ L.map key → L'.Perm (x :: L)) → Q b { s with heap := h', toks := tk }) → wpAny (model P w) A (setAdd a (val x)) Q E s
  look : ∀ {h : Heap} {a : Addr} {L : List ι}, inv h a L → (∃ es ep t, SetAt h a es ep t ∧ t.fits es.size = true ∧ Ris t.place.toList ∧ (w.params.followText "set-order" = true ∨ t.led = true) ∧ es.toList.map (·.2) = L.map val) ∧ L.length < 64 ∧ (L.map key).Nodup
section
variable {P : Program} {w : World} {ι κ : Type}
/-- the first i are in -/
structure Taken (M : Mb P w ι κ) (ks : List ι) (i : Nat) (L : List ι) : Prop where
  of : ∀ p ∈ L, p ∈ ks
  all : ∀ p ∈ ks.take i, M.key p ∈ L.map M.key
  few : L.length ≤ i
theorem Taken.next {M : Mb P w ι κ} {ks L L' : List ι} {i : Nat} {x : ι} (g : Taken M ks i L) (h : ks[i]? = some x) (c1 : M.key x ∈ L.map M.key → L' = L) (c2 : M.key x ∉ L.map M.key → L'.Perm (x :: L)) : Taken M ks (i + 1) L' := by
  have tk : ks.take (i + 1) = ks.take i ++ [x] := by rw [List.take_succ, h]; rfl
  rcases Classical.em (M.key x ∈ L.map M.key) with c | c
  · have e := c1 c
    subst e
    refine ⟨g.of, fun p hp => ?_, Nat.le_succ_of_le g.few⟩
    rw [tk, List.mem_append, List.mem_singleton] at hp
    rcases hp with z | z
    · exact g.all p z
    · rw [z]; exact c
  · have pm := c2 c
    refine ⟨fun p hp => ?_, fun p hp => ?_, ?_⟩
    · rcases List.mem_cons.mp (pm.mem_iff.mp hp) with z | z
      · rw [z]; exact List.mem_of_getElem? h
      · exact g.of p z
    · rw [(pm.map M.key).mem_iff, List.map_cons, List.mem_cons]
      rw [tk, List.mem_append, List.mem_singleton] at hp
      rcases hp with z | z
      · exact .inr (g.all p z)
      · exact .inl (by rw [z])
    · rw [pm.length_eq, List.length_cons]
      exact Nat.succ_le_succ g.few
variable {A : Around} {E : Value → Shared → Prop} {s : Shared}
theorem upd_loop (M : Mb P w ι κ) {I : Addr} {fp wr : List Addr} {G : Array GenState → Array GenState → Prop} {n : Nat} {Pv : Nat → Value → Prop} {St : Nat → Shared → Prop} {R : Result → Shared → Prop}
    (W : WalksS P w A.in1 I fp wr G n Pv St) (S : Addr) (hS : S ∉ fp) (ks : List ι) (hn : n = ks.length) (few : ks.length < 64) (hv : ∀ i v, Pv i v → ∃ x, ks[i]? = some x ∧ v = M.val x)
    (h0 : Heap) (his : ∀ x ∈ ks, M.is h0 x) (hS0 : h0.get? S = none) (hw0 : ∀ b ∈ wr, h0.get? b = none) (hu : A.in1.units < cLine) :
    ∀ (d i : Nat) (s : Shared), n - i = d → i ≤ n → St i s → (∀ b o, h0.get? b = some o → s.heap.get? b = some o) → (∃ L, M.inv s.heap S L ∧ Taken M ks i L) →
      (∀ s' L, Moved (S :: wr) G s s' → M.inv s'.heap S L → Taken M ks n L → (∀ b o, h0.get? b = some o → s'.heap.get? b = some o) → R (.ok (.ret .none)) s') →
      codeAny (model P w) A (.builtin "set.update.loop" ⟨[.ref S, .ref I], []⟩) R s := by
  have nw : S ∉ wr := fun h => hS (W.sub _ h)
  have more : ∀ b ∈ wr, b ∈ S :: wr := fun b hb => List.mem_cons_of_mem _ hb
  have still : ∀ {s s' : Shared}, Moved wr G s s' → (∀ b o, h0.get? b = some o → s.heap.get? b = some o) → ∀ b o, h0.get? b = some o → s'.heap.get? b = some o := fun m k b o e => m.heap b o (fun hb => by rw [hw0 b hb] at e; cases e) (k b o e)
  intro d
  induction d with
  | zero =>
    intro i s hd hi st kp ⟨L, inv, g⟩ hR
    obtain rfl : i = n := by omega
    refine codeAny_builtin F.entry_set_update_loop ?_
    rw [Around.under_plainId F.plain_set_update_loop _]
    refine wpAny_bind (m := pyNext (.ref I)) (W.done s _ _ st fun s' m => ?_)
    exact wpAny_pure (hR s' L (m.mono more) (M.keep inv fun o e => m.heap S o nw e) g (still m kp))
  | succ d ih =>
    intro i s hd hi st kp ⟨L, inv, g⟩ hR
    have lt : i < n := by omega
    refine codeAny_builtin F.entry_set_update_loop ?_
    rw [Around.under_plainId F.plain_set_update_loop _]
    refine wpAny_bind (m := pyNext (.ref I)) (W.item i s _ _ lt st fun v s' hP st' m => ?_)
    obtain ⟨x, hx, rfl⟩ := hv i v hP
    have kp' := still m kp
    refine wpAny_bind (m := holding [M.val x] (setAdd S (M.val x))) (wpAny_holding ?_)
    refine M.add (M.keep inv fun o e => m.heap S o nw e) (fun p hp => M.keepIs (his p (g.of p hp)) kp') (M.keepIs (his x (List.mem_of_getElem? hx)) kp') hu (by have := g.few; omega) fun b h' L' tk htk sb inv' c1 c2 => ?_
    have kp2 : ∀ b o, h0.get? b = some o → h'.get? b = some o := fun b o e => (sb.2 b (fun z => by rw [z, hS0] at e; cases e)).trans (kp' b o e)
    refine wpAny_pure ⟨plainId_quiet F.plain_set_update_loop _, ih (i + 1) _ (by omega) lt (W.frame _ s' _ _ st' htk fun b hb o e => ?_) kp2 ⟨L', inv', g.next hx c1 c2⟩ fun s2 L2 m2 inv2 g2 k2 => ?_⟩
    · rw [sb.2 b (fun h : b = S => hS (by rw [← h]; exact hb))]; exact e
    · refine hR s2 L2 (Moved.trans W.gtrans ((m.mono more).then_heap htk fun b o hb e => ?_) m2) inv2 g2 k2
      rw [sb.2 b (fun h : b = S => hb (by rw [h]; exact List.mem_cons_self))]; exact e
end
end T2
end
section
set_option Elab.async false
set_option linter.all false
set_option autoImplicit false
set_option maxRecDepth 100000
namespace T2
open PySem PySem.Spec L2
open PyProof.Rows hiding St

section
variable {P : Program} {w : World} {ι κ : Type} {A : Around} {E : Value → Shared → Prop} {s : Shared}
abbrev set0 (w : World) : Obj := { cls := .type "set", dict := none, data := .set #[] 0 (.fresh 0 0 (!w.params.followText "set-order")) }
set_option maxHeartbeats 3200000 in
/-- set(xs), xs a list -/
theorem set_of_list (M : Mb P w ι κ) {l : Addr} {its : Array Value} (ks : List ι) {Q : Value → Shared → Prop} (hh : A.handled = none) (hl : s.heap.IsList l its) (hit : its.toList = ks.map M.val) (his : ∀ x ∈ ks, M.is s.heap x) (few : ks.length < 64) (hu : A.units + 3 < cLine)
    (hQ : ∀ (h' : Heap) (tk : Nat) (L : List ι), M.inv h' s.heap.objs.size L → Taken M ks ks.length L → (∀ b o, s.heap.get? b = some o → h'.get? b = some o) → Q (.ref s.heap.objs.size) { s with heap := h', toks := tk }) :
    wpAny (model P w) A (call (.type "set") [.ref l]) Q E s := by
  have hz : its.size = ks.length := by rw [← Array.length_toList, hit, List.length_map]
  obtain ⟨c, tl, hmro⟩ := F.called_set.mro
  have hmade := F.called_set.made
  have hsub := F.called_set.sub
  refine wpAny_call (codeAny_of_tree ?_)
  show wpAny _ _ (callAny (.type "set") _) _ _ _
  refine wpAny_pure ⟨Code.quiet_builtin _ (by decide +kernel), codeAny_builtin F.entry_type_call ?_⟩
  rw [Around.under_plain (weight_type_call_type "set" [.ref l] []) rfl]
  have h1 := F.called_set.notType
  have h2 := F.called_set.canCreate
  have hct := F.typeCall_set_1 (.ref l)
  repeat (any_goals first | assumption | wp_step)
  refine codeAny_mono (code_set_led1 (.ref l) (E := E) (Q₁ := fun ob z => ob = .ref s.heap.objs.size ∧ z = { s with heap := s.heap.push (set0 w) }) ⟨rfl, rfl⟩) fun r z hr => ?_
  cases r with
  | error e => exact hr
  | ok fl =>
    cases fl with
    | ret ob =>
      obtain ⟨rfl, rfl⟩ := hr
      have hS : (s.heap.push (set0 w)).get? s.heap.objs.size = some (set0 w) := Heap.get?_push_size _ rfl
      have hT : Shared.TypeIs { s with heap := s.heap.push (set0 w) } (.ref s.heap.objs.size) "set" := ⟨_, hS, rfl⟩
      have hli := F.called_set.init.lookup
      have hbi := F.called_set.init.bind (.ref s.heap.objs.size)
      repeat (any_goals first | assumption | wp_step)
      refine codeAny_mono (codeAny_call_builtin (R := wants (fun r z => r = .none ∧ ∃ h' tk L, z = { s with heap := h', toks := tk } ∧ M.inv h' s.heap.objs.size L ∧ Taken M ks ks.length L ∧ ∀ b o, s.heap.get? b = some o → h'.get? b = some o) E)
        F.called_set.init.plain F.entry_set_init (check_set_init_1 hT ?_)) fun r2 z2 hr2 => ?_
      · obtain ⟨ol, hol, hcl, nl, hdl⟩ := hl
        obtain ⟨oc, od, odt, osl⟩ := ol
        simp only at hcl hdl
        subst hcl; subst hdl
        have hol' : (s.heap.push (set0 w)).get? l = some { cls := .type "list", dict := od, data := .seq its nl, slots := osl } := Heap.get?_push_of_some _ hol
        have q1 := F.sub_list_set
        have q2 := F.sub_list_frozenset
        have q3 : (Value.type "list" == Value.type "dict") = false := by decide
        have hl1 : (s.heap.push (set0 w)).IsList l its := ⟨_, hol', rfl, nl, rfl⟩
        unfold Builtin.«set.__init__» noKeywords Builtin.Frozenset.updateFrom
        generalize hPI : pyIter = PI
        wp_walk
        subst hPI
        refine wpAny_pyIter_list hl1 (wpAny_bind (wpAny_runValue ?_))
        have lt : l < s.heap.objs.size := Heap.lt_size hol
        have ha3 : A.in1.in1.in1.handled = none := by simp [hh]
        have ne : l ≠ (s.heap.push (set0 w)).objs.size := by
          rw [Heap.size_push]
          exact Nat.ne_of_lt (Nat.lt_succ_of_lt lt)
        have nS : s.heap.objs.size ∉ [(s.heap.push (set0 w)).objs.size, l] := by
          rw [Heap.size_push]
          simp only [List.mem_cons, List.mem_singleton, List.not_mem_nil, or_false, not_or]
          exact ⟨Nat.ne_of_lt (Nat.lt_succ_self _), Nat.ne_of_gt lt⟩
        have hv : ∀ (i : Nat) (v : Value), its[i]? = some v → ∃ x, ks[i]? = some x ∧ v = M.val x := fun i v e => by
          rw [← Array.getElem?_toList, hit, List.getElem?_map] at e
          cases q : ks[i]? with
          | none => rw [q] at e; cases e
          | some x => rw [q] at e; exact ⟨x, rfl, (Option.some.inj e).symm⟩
        have nil : ∀ b, s.heap.objs.size ≤ b → s.heap.get? b = none := fun b hb => by
          cases q : s.heap.get? b with
          | none => rfl
          | some o => exact absurd (Nat.lt_of_lt_of_le (Heap.lt_size q) hb) (Nat.lt_irrefl _)
        refine upd_loop M ((Walks.list ha3 _ l ne its).toS) s.heap.objs.size nS ks hz few hv s.heap his (nil _ (Nat.le_refl _)) (fun b hb => nil b (by rw [List.mem_singleton.mp hb, Heap.size_push]; exact Nat.le_succ _)) hu (its.size - 0) 0 _ (by omega) (Nat.zero_le _)
          ⟨⟨_, Heap.get?_push_size _ rfl, rfl, rfl⟩, hl1.push _⟩ (fun b o e => Heap.get?_push_of_some _ (Heap.get?_push_of_some _ e)) ⟨[], M.fresh (Heap.get?_push_of_some _ hS), ⟨fun p h => (by cases h), fun p h => (by simp at h), Nat.le_refl _⟩⟩ fun z' L m inv g kp => ?_
        obtain ⟨h', g', d', tk', os'⟩ := z'
        have e1 : g' = s.gens := m.gens
        have e2 : d' = s.drawn := m.drawn
        have e3 : os' = s.os := m.os
        subst e1 e2 e3
        refine wpAny_pure ?_
        rw [hz] at g
        exact wpAny_pure ⟨rfl, h', tk', L, rfl, inv, g, kp⟩
      · cases r2 with
        | error e => exact hr2
        | ok fl2 =>
          cases fl2 with
          | ret r =>
            obtain ⟨rfl, h', tk, L, rfl, inv, g, kp⟩ := hr2
            repeat (any_goals first | assumption | wp_step)
            exact hQ _ _ _ inv g kp
          | _ => exact hr2.elim
    | _ => exact hr.elim
end
end T2
end
section
set_option Elab.async false
set_option linter.all false
set_option autoImplicit false
set_option maxRecDepth 100000
namespace T2
open PySem PySem.Spec L2
open PyProof.Rows hiding St
open PySem.W (alike alikeAll dataLt dataLe EachIs)
open Py (enc)

theorem perm_map {α β : Type} {f : α → β} : ∀ {rs : List β} {L : List α}, rs.Perm (L.map f) → ∃ L' : List α, rs = L'.map f ∧ L'.Perm L
  | [], L, pm => by
    have : L = [] := by simpa using pm.symm.eq_nil
    subst this
    exact ⟨[], rfl, .refl _⟩
  | r :: rs, L, pm => by
    obtain ⟨p, hp, rfl⟩ := List.mem_map.mp (pm.mem_iff.mp List.mem_cons_self)
    obtain ⟨l1, l2, rfl⟩ := List.append_of_mem hp
    have pm2 : rs.Perm ((l1 ++ l2).map f) := by
      have h1 : (f p :: rs).Perm (f p :: (l1 ++ l2).map f) := by
        refine pm.trans ?_
        simp only [List.map_append, List.map_cons]
        exact List.perm_middle
      exact h1.cons_inv
    obtain ⟨L', e, q⟩ := perm_map pm2
    exact ⟨p :: L', by rw [List.map_cons, e], (q.cons p).trans List.perm_middle.symm⟩
theorem map_inj_eq {α β : Type} {f : α → β} (hf : ∀ a b, f a = f b → a = b) : ∀ {xs ys : List α}, xs.map f = ys.map f → xs = ys
  | [], [], _ => rfl
  | [], _ :: _, h => by simp at h
  | _ :: _, [], h => by simp at h
  | x :: xs, y :: ys, h => by
    simp only [List.map_cons, List.cons.injEq] at h
    rw [hf _ _ h.1, map_inj_eq hf h.2]

/-! ### the kinds -/
def kyL (k : Ky) : List Key := [Sum.inr k.1, Sum.inl k.2]
theorem kyL_inj (a b : Ky) (h : kyL a = kyL b) : a = b := by
  simp only [kyL, List.cons.injEq, Sum.inr.injEq, Sum.inl.injEq, and_true] at h
  exact Prod.ext h.1 h.2
def ad2 (p : Addr × Ky) : Addr × List Key := (p.1, kyL p.2)
theorem ad2_inj (a b : Addr × Ky) (h : ad2 a = ad2 b) : a = b := by
  simp only [ad2, Prod.mk.injEq] at h
  exact Prod.ext h.1 (kyL_inj _ _ h.2)
section
variable (P : Program) (w : World)
def mbT : Mb P w (Addr × Ky) Ky where
  val p := .ref p.1
  key p := p.2
  is h p := IsTupleKey (mixKind P w) h (kyL p.2) p.1
  inv h a L := ∃ es ep t, TSet (mixKind P w) h a (L.map ad2) es ep t
  keepIs := fun ⟨o, its, n, ho, r⟩ k => ⟨o, its, n, k _ _ ho, r⟩
  keep := fun ⟨es, ep, t, R⟩ k => ⟨es, ep, t, let ⟨o, ho, r⟩ := R.ob; ⟨o, k o ho, r⟩, R.tb, R.nd⟩
  fresh := fun {h a} ho => ⟨#[], 0, _, ⟨_, ho, ⟨rfl, rfl, rfl⟩, rfl⟩, ⟨rfl, ⟨List.Pairwise.nil, rfl, rfl, .inl rfl, fun x hx => (by cases hx), fun i h j hi => (by simp at hi)⟩, (by
    show _ ∨ (!w.params.followText "set-order") = true
    cases w.params.followText "set-order"
    · exact .inr rfl
    · exact .inl rfl), (by show 0 * 5 < 7 * 3; decide), (by show 0 < 64; decide)⟩, List.nodup_nil⟩
  add := fun {A E s a L x Q} inv hL hx hu few h => by
    obtain ⟨es, ep, t, R⟩ := inv
    unfold setAdd
    refine wpAny_holding ?_
    refine wpAny_bind (wpAny_pyHash_tuple hu hx ?_)
    refine tset_add (s := { s with toks := s.toks + ((kyL x.2).length + 1) }) R (fun p hp => ?_) hx hu (by rw [List.length_map]; exact few) fun b h' L' es' ep' t' sb R' c1 c2 => ?_
    · obtain ⟨q, hq, rfl⟩ := List.mem_map.mp hp
      exact hL q hq
    · have mem : kyL x.2 ∈ (L.map ad2).map (·.2) ↔ x.2 ∈ L.map (·.2) := by
        constructor
        · intro z
          rw [List.map_map] at z
          obtain ⟨q, hq, e⟩ := List.mem_map.mp z
          exact List.mem_map.mpr ⟨q, hq, kyL_inj _ _ e⟩
        · intro z
          obtain ⟨q, hq, e⟩ := List.mem_map.mp z
          rw [List.map_map]
          exact List.mem_map.mpr ⟨q, hq, by show kyL q.2 = _; rw [e]⟩
      by_cases hm : x.2 ∈ L.map (·.2)
      · have e := c1 (mem.mpr hm)
        subst e
        exact h b h' L _ (Nat.le_add_right _ _) sb ⟨es', ep', t', R'⟩ (fun _ => rfl) fun z => absurd hm z
      · have pm := c2 fun z => hm (mem.mp z)
        obtain ⟨L1, rfl, pm1⟩ := perm_map (f := ad2) (L := x :: L) pm
        exact h b h' L1 _ (Nat.le_add_right _ _) sb ⟨es', ep', t', R'⟩ (fun z => absurd z hm) fun _ => pm1
  look := fun {h a L} inv => by
    obtain ⟨es, ep, t, R⟩ := inv
    obtain ⟨o, ho, hex, hd⟩ := R.ob
    refine ⟨⟨es, ep, t, ⟨o, ho, hex.1, hd⟩, R.tb.fits, R.tb.tab.ris, R.tb.led, ?_⟩, by have := R.tb.few; simpa using this, ?_⟩
    · rw [R.tb.es, List.map_map, List.map_map]
      rfl
    · have := R.nd
      rw [List.map_map] at this
      have e : (L.map fun p => kyL p.2) = (L.map (·.2)).map kyL := by rw [List.map_map]; rfl
      have t : ((L.map (·.2)).map kyL).Nodup := by rw [← e]; exact this
      exact List.Pairwise.of_map kyL (fun _ _ hne e => hne (congrArg kyL e)) t
def mbS : Mb P w (Str × Tok) Str where
  val p := .str p.1 p.2
  key p := p.1
  is _ _ := True
  inv h a L := ∃ es ep t, SSet w h a L es ep t
  keepIs := fun _ _ => trivial
  keep := fun ⟨es, ep, t, R⟩ k => ⟨es, ep, t, let ⟨o, ho, r⟩ := R.ob; ⟨o, k o ho, r⟩, R.tb, R.nd⟩
  fresh := fun {h a} ho => ⟨#[], 0, _, ⟨_, ho, ⟨rfl, rfl, rfl⟩, rfl⟩, ⟨rfl, ⟨List.Pairwise.nil, rfl, rfl, .inl rfl, fun x hx => (by cases hx), fun i h j hi => (by simp at hi)⟩, (by
    show _ ∨ (!w.params.followText "set-order") = true
    cases w.params.followText "set-order"
    · exact .inr rfl
    · exact .inl rfl), (by show 0 * 5 < 7 * 3; decide), (by show 0 < 64; decide)⟩, List.nodup_nil⟩
  add := fun {A E s a L x Q} inv hL hx hu few h => by
    obtain ⟨es, ep, t, R⟩ := inv
    unfold setAdd
    refine wpAny_holding ?_
    refine wpAny_bind (wpAny_pyHash_str ?_)
    refine sset_add (s := { s with toks := s.toks + 1 }) R few fun b h' L' es' ep' t' sb R' c1 c2 => ?_
    exact h b h' L' _ (Nat.le_add_right _ _) sb ⟨es', ep', t', R'⟩ c1 c2
  look := fun {h a L} inv => by
    obtain ⟨es, ep, t, R⟩ := inv
    obtain ⟨o, ho, hex, hd⟩ := R.ob
    refine ⟨⟨es, ep, t, ⟨o, ho, hex.1, hd⟩, R.tb.fits, R.tb.tab.ris, R.tb.led, ?_⟩, by have := R.tb.few; simpa using this, R.nd⟩
    rw [R.tb.es, List.map_map]
    rfl
end

/-! ### sorted(set) -/
section
variable {P : Program} {w : World} {ι α : Type} [Py α] {A : Around} {E : Value → Shared → Prop} {s : Shared}
theorem sorted_of_set (M : Mb P w ι α) {a : Addr} {L : List ι} {Q : Value → Shared → Prop} (inv : M.inv s.heap a L) (hh : A.handled = none) (hr : ∀ h' : Heap, (∀ b o, s.heap.get? b = some o → h'.get? b = some o) → ∀ p ∈ L, Reads h' (M.val p) (enc (M.key p)) [])
    (hs : PySem.W.Sortable (L.map fun p => enc (M.key p))) (hd : Py.dp α ≤ 60) (hu : A.units + 64 < cLine)
    (hQ : ∀ s' p (out : List Value) (c : Nat), (∀ b o, s.heap.get? b = some o → s'.heap.get? b = some o) → s'.gens = s.gens → s'.os = s.os → s.heap.objs.size ≤ p → s'.heap.get? p = some (seqObj "list" out.toArray c) →
      EachIs (fun v k => ∃ q ∈ L, v = M.val q ∧ M.key q = k) out (srt (L.map M.key)) → Q (.ref p) s') : wpAny (model P w) A (call (.builtin "sorted") [.ref a]) Q E s := by
  obtain ⟨⟨es, ep, t, at1, fit, ris, led, eq⟩, few, nd⟩ := M.look inv
  have sz : es.size = L.length := by rw [← Array.length_toList, ← List.length_map (f := (·.2)), eq, List.length_map]
  refine Calls.call_function_entry kind_sorted plain_sorted entry_sorted (args_sorted1 _) ?_
  unfold Builtin.«sorted»
  refine wpAny_bind (m := checkCount "sorted" 1 1 _) (wpAny_pure ?_)
  refine wpAny_bind (collect_set (A := A.in1) hh at1 fit (by unfold scanBound; omega) ris led fun s1 vs k1 hz g1 o1 pm => ?_)
  rw [eq] at pm
  obtain ⟨L1, rfl, pm1⟩ := perm_map pm
  have l1 : L1.length < 64 := by rw [pm1.length_eq]; exact few
  refine wpAny_bind (wpAny_newList ?_ (by rw [List.length_map, sizeLine_eq]; omega))
  have hoL : (s1.heap.push (seqObj "list" (L1.map M.val).toArray 0)).get? s1.heap.objs.size = some (seqObj "list" (L1.map M.val).toArray 0) := Heap.get?_push_size _ rfl
  have each : ∀ (l : List ι), (∀ p ∈ l, p ∈ L) → EachIs (fun v p => v = M.val p ∧ p ∈ L) (l.map M.val) l := fun l => by
    induction l with
    | nil => exact fun _ => .nil
    | cons p l ih => exact fun h => .cons ⟨rfl, h p List.mem_cons_self⟩ (ih fun q hq => h q (List.mem_cons_of_mem _ hq))
  have e0 := each L1 fun p hp => pm1.mem_iff.mp hp
  have er : EachIs (fun v p => ∃ as, Reads (s1.heap.push (seqObj "list" (L1.map M.val).toArray 0)) v (enc (M.key p)) as ∧ s1.heap.objs.size ∉ as) (L1.map M.val) L1 := e0.mono fun v p ⟨z, hp⟩ => by
    rw [z]
    exact ⟨[], hr _ (fun b u e => Heap.get?_push_of_some _ (k1 b u e)) p hp, by simp⟩
  refine wpAny_bind (wpAny_holding (PySem.W.list_sort_data (s := { s1 with heap := s1.heap.push (seqObj "list" (L1.map M.val).toArray 0) }) (enc := fun p => enc (M.key p)) hoL e0 er (fun d h1 d' h2 => ?_) ?_ (by rw [sizeLine_eq]; omega) (fun b hb => ?_) fun out ol oe => ?_))
  · obtain ⟨p, _, rfl⟩ := List.mem_map.mp h1
    obtain ⟨q, _, rfl⟩ := List.mem_map.mp h2
    exact Py.alk _ _
  · rcases hs with z | z
    · exact .inl fun d h1 => z d (by obtain ⟨p, hp, rfl⟩ := List.mem_map.mp h1; exact List.mem_map.mpr ⟨p, pm1.mem_iff.mp hp, rfl⟩)
    · exact .inr fun d h1 => z d (by obtain ⟨p, hp, rfl⟩ := List.mem_map.mp h1; exact List.mem_map.mpr ⟨p, pm1.mem_iff.mp hp, rfl⟩)
  · have := Py.dep (M.key b)
    show A.units + 1 + 1 + _ < cLine
    omega
  · obtain ⟨c, hc⟩ := sortedHeap_at (vs := L1.map M.val) (out := out.toArray) hoL
    have key : (L1.mergeSort (dataLe false fun p => enc (M.key p))).map M.key = srt (L.map M.key) := by
      have h1 : (L1.mergeSort (dataLe false fun p => enc (M.key p))).map M.key = srt (L1.map M.key) := by
        unfold srt
        exact List.map_mergeSort fun a _ b _ => rfl
      rw [h1]
      exact srt_congr (pm1.map M.key)
    have fin : ∀ {us : List Value} {l : List ι}, EachIs (fun v p => v = M.val p ∧ p ∈ L) us l → EachIs (fun v k => ∃ q ∈ L, v = M.val q ∧ M.key q = k) us (l.map M.key) := fun {us l} h => by
      induction h with
      | nil => exact .nil
      | cons h1 _ ih => exact .cons ⟨_, h1.2, h1.1, rfl⟩ ih
    refine wpAny_pure ⟨_, rfl, hQ _ s1.heap.objs.size out c (fun b u e => ?_) g1 o1 hz hc (key ▸ fin oe)⟩
    have q := k1 b u e
    have lt := Heap.lt_size q
    show (sortedHeap (s1.heap.push (seqObj "list" (L1.map M.val).toArray 0)) s1.heap.objs.size (L1.map M.val) out.toArray).get? b = some u
    rw [sortedHeap_old (Nat.ne_of_lt lt) (by rw [size_push']; exact Nat.lt_succ_of_lt lt)]
    exact Heap.get?_push_of_some _ q
end
end T2
end
section
set_option Elab.async false
set_option linter.all false
set_option autoImplicit false
set_option maxRecDepth 100000
namespace T2
open PySem PySem.Spec L2
open PyProof.Rows hiding St
open PySem.W (alike alikeAll dataLt dataLe EachIs)
open Py (enc)

/-- members of a type -/
structure MK (α : Type) [Py α] [PyI α] where
  ι : Type
  mb : ∀ P w, Mb P w ι α
  conv : ∀ {X : Cx} {pins : List (Addr × Obj)} {σ : St} {H : Hp} {s : Shared} {v : V} {u : Value} {z : α}, Inv X pins σ H s → Dp X.K H v (enc z) → RelV v u → ∃ p : ι, (mb X.prog X.w).val p = u ∧ (mb X.prog X.w).key p = z ∧ (mb X.prog X.w).is s.heap p
  srt : (∀ z : α, ∃ x r, (enc z : PyData) = .tuple (x :: r)) ∨ ∀ z : α, (enc z : PyData) ≠ .none ∧ ∀ xs, (enc z : PyData) ≠ .tuple xs
def mkS : MK Str where
  ι := Str × Tok
  mb := mbS
  conv := fun {X pins σ H s v u z} I h r => by
    have h : Dp X.K H v (.str z) := h
    cases h
    obtain ⟨t, rfl⟩ := r
    exact ⟨(z, t), rfl, rfl, trivial⟩
  srt := .inr fun z => ⟨fun e => (by cases e), fun xs e => (by cases e)⟩
def mkK : MK Ky where
  ι := Addr × Ky
  mb := mbT
  conv := fun {X pins σ H s v u z} I h r => by
    have h : Dp X.K H v (.tuple [.str z.1, .int z.2]) := h
    cases h with
    | tup hs ha =>
      cases r
      obtain ⟨its, rv, ⟨o, ho, hc, n, hd⟩, _⟩ := I.tuple hs
      cases ha with
      | cons h1 t1 =>
        cases t1 with
        | cons h2 t2 =>
          cases t2
          cases h1; cases h2
          refine ⟨(_, z), rfl, rfl, o, its.toArray, n, ho, hc, hd, ?_⟩
          have : ∀ {ks : List Key} {us : List Value}, Vals (ks.map kV) us → ItemsAre (mixKind X.prog X.w) ks us := fun {ks} => by
            induction ks with
            | nil => intro us r; cases r; exact .nil
            | cons k ks ih =>
              intro us r
              cases r with
              | cons r1 r2 => exact .cons (kV_is r1) (ih r2)
          have q := this (ks := kyL z) rv
          simpa using q
  srt := .inl fun z => ⟨_, _, rfl⟩
mutual
theorem reads_imm {h : Heap} : ∀ (d : PyData) (v : Value) (as : List Addr), imm d = true → Reads h v d as → as = []
  | .none, _, _, _, r => by cases r; rfl
  | .bool _, _, _, _, r => by cases r; rfl
  | .int _, _, _, _, r => by cases r; rfl
  | .str _, _, _, _, r => by cases r; rfl
  | .list _, _, _, i, _ => by simp [imm] at i
  | .tuple ds, _, _, i, r => by
    cases r with
    | tuple _ _ _ h4 => exact readsA_imm ds _ _ (by simpa [imm] using i) h4
  | .dict _, _, _, i, _ => by simp [imm] at i
theorem readsA_imm {h : Heap} : ∀ (ds : List PyData) (vs : List Value) (as : List Addr), immA ds = true → ReadsAll h vs ds as → as = []
  | [], _, _, _, r => by cases r; rfl
  | d :: ds, _, _, i, r => by
    rw [immA, Bool.and_eq_true] at i
    cases r with
    | cons h1 h2 => rw [reads_imm d _ _ i.1 h1, readsA_imm ds _ _ i.2 h2]; rfl
end
section
variable {α : Type} [Py α] [PyI α] [DecidableEq α]
theorem sset_of {xs ys : List α} (nd : ys.Nodup) (m : ∀ z, z ∈ ys ↔ z ∈ xs) : srt ys = sset xs :=
  srt_congr ((List.perm_ext_iff_of_nodup nd (nodup_dd xs)).mpr fun z => by rw [m, mem_dd])
def MO {ι : Type} {P : Program} {w : World} (M : Mb P w ι α) (a : Addr) (L : List ι) : HO := .ext fun h => M.inv h a L
theorem mo_new {ι : Type} {P : Program} {w : World} {M : Mb P w ι α} {H : Hp} {h : Heap} {a : Addr} {L : List ι} (R : M.inv h a L) : ObjOk P w H h a (MO M a L) := by
  obtain ⟨⟨es, ep, t, ⟨o, ho, _⟩, _⟩, _⟩ := M.look R
  exact ⟨R, ⟨o, ho⟩, fun h1 h2 p k => M.keep p k⟩
/-- what is known of the members -/
def Mem (K : PySem.W.Frag) {ι : Type} {P : Program} {w : World} (M : Mb P w ι α) (H : Hp) (L : List ι) : Prop := ∀ p ∈ L, ∃ v, RelV v (M.val p) ∧ Dp K H v (enc (M.key p))
def rSetM (K : PySem.W.Frag) (k : MK α) (P : Program) (w : World) : List V → Hp → VK → Prop := fun xs H Q => ∃ (l : Addr) (vs : List V) (zs : List α), xs = [.ref l] ∧ SqL K H l vs ∧ DpAll K H vs (zs.map enc) ∧ zs.length < 64 ∧
  ∀ a (L : List k.ι), H a = none → Mem K (k.mb P w) H L → (L.map (k.mb P w).key).Nodup → (∀ z, z ∈ L.map (k.mb P w).key ↔ z ∈ zs) → Q (.ref a) (upd H a (MO (k.mb P w) a L))
variable {X : Cx}
theorem cr_setM (k : MK α) (hc : X.calm = true) (hu : X.A.units + 64 < cLine) : CallR X (.type "set") (rSetM X.K k X.prog X.w) := by
  intro pins s σ H xs us Q I r h
  obtain ⟨l, vs, zs, rfl, hl, ha, few, q⟩ := h
  rw [Vals.ref1 r]
  obtain ⟨its, rv, pl, hz⟩ := I.list hl
  have hn : H s.heap.objs.size = none := I.hok.fresh (Nat.le_refl _)
  have cv : ∀ {vs : List V} {zs : List α} {its : List Value}, DpAll X.K H vs (zs.map enc) → Vals vs its → ∃ ks : List k.ι, its = ks.map (k.mb X.prog X.w).val ∧ ks.map (k.mb X.prog X.w).key = zs ∧ (∀ p ∈ ks, (k.mb X.prog X.w).is s.heap p) ∧ Mem X.K (k.mb X.prog X.w) H ks := by
    intro vs zs
    induction zs generalizing vs with
    | nil =>
      intro its h1 h2
      cases h1; cases h2
      exact ⟨[], rfl, rfl, fun p h => (by cases h), fun p h => (by cases h)⟩
    | cons z zs ih =>
      intro its h1 h2
      cases h1 with
      | cons d1 t1 =>
        cases h2 with
        | cons r1 r2 =>
          obtain ⟨p, p1, p2, p3⟩ := k.conv I d1 r1
          obtain ⟨ks, k1, k2, k3, k4⟩ := ih t1 r2
          refine ⟨p :: ks, by rw [List.map_cons, p1, k1], by rw [List.map_cons, p2, k2], fun q hq => ?_, fun q hq => ?_⟩
          · rcases List.mem_cons.mp hq with rfl | hq
            · exact p3
            · exact k3 q hq
          · rcases List.mem_cons.mp hq with rfl | hq
            · exact ⟨_, by rw [p1]; exact r1, by rw [p2]; exact d1⟩
            · exact k4 q hq
  obtain ⟨ks, k1, k2, k3, k4⟩ := cv ha rv
  have len : ks.length = zs.length := by rw [← k2, List.length_map]
  refine set_of_list (k.mb X.prog X.w) ks (I.ok.hd hc) pl.isList (by simpa using k1) k3 (by omega) (by omega) fun h' tk L inv g kp => ?_
  refine ⟨.ref s.heap.objs.size, _, I.laid (t' := tk) kp (Nat.le_refl _) (mo_new inv), rfl, q _ L hn (fun p hp => k4 p (g.of p hp)) (Mb.look _ inv).2.2 fun z => ?_⟩
  constructor
  · intro hz
    obtain ⟨p, hp, rfl⟩ := List.mem_map.mp hz
    rw [← k2]
    exact List.mem_map.mpr ⟨p, g.of p hp, rfl⟩
  · intro hz
    rw [← k2] at hz
    obtain ⟨p, hp, rfl⟩ := List.mem_map.mp hz
    exact g.all p (by rw [List.take_length]; exact hp)
def rSrtM (K : PySem.W.Frag) (k : MK α) (P : Program) (w : World) : List V → Hp → VK → Prop := fun xs H Q => ∃ (a : Addr) (L : List k.ι), xs = [.ref a] ∧ H a = some (MO (k.mb P w) a L) ∧ Mem K (k.mb P w) H L ∧
  ∀ p vs, H p = none → L.length < 64 → DpAll K H vs ((srt (L.map (k.mb P w).key)).map enc) → Q (.ref p) (upd H p (.lst vs))
theorem cr_srtM (k : MK α) (hc : X.calm = true) (hu : X.A.units + 64 < cLine) (hd : Py.dp α ≤ 60) : CallR X (.builtin "sorted") (rSrtM X.K k X.prog X.w) := by
  intro pins s σ H xs us Q I r h
  obtain ⟨a, L, rfl, ha, hm, q⟩ := h
  have inv : (k.mb X.prog X.w).inv s.heap a L := (I.hok a _ ha).1
  rw [Vals.ref1 r]
  refine sorted_of_set (k.mb X.prog X.w) inv (I.ok.hd hc) (fun h' kp p hp => ?_) ?_ hd hu fun s' p out c kp hg ho hp hat he => ?_
  · obtain ⟨v, r1, d1⟩ := hm p hp
    obtain ⟨as, rd⟩ := Dp.reads I _ v _ d1 r1
    have e := reads_imm _ _ _ (PyI.im _) rd
    subst e
    exact PyProof.Rows.Reads.keeps kp rd
  · rcases k.srt with z | z
    · exact .inl fun d hd => by
        obtain ⟨p, _, rfl⟩ := List.mem_map.mp hd
        exact z _
    · exact .inr fun d hd => by
        obtain ⟨p, _, rfl⟩ := List.mem_map.mp hd
        exact z _
  · have few := (Mb.look _ inv).2.1
    have back : ∀ {us : List Value} {zs : List α}, EachIs (fun v z => ∃ q ∈ L, v = (k.mb X.prog X.w).val q ∧ (k.mb X.prog X.w).key q = z) us zs → ∃ vs, Vals vs us ∧ DpAll X.K H vs (zs.map enc) := fun {us zs} h => by
      induction h with
      | nil => exact ⟨[], .nil, .nil⟩
      | cons h1 _ ih =>
        obtain ⟨q, hq, rfl, rfl⟩ := h1
        obtain ⟨v, r1, d1⟩ := hm q hq
        obtain ⟨vs, r2, d2⟩ := ih
        exact ⟨v :: vs, .cons r1 r2, .cons d1 d2⟩
    obtain ⟨vs, rv, dv⟩ := back he
    have len : vs.length ≤ sizeLine := by
      rw [dpa_len dv, List.length_map, srt_len, List.length_map, sizeLine_eq]; omega
    have hn : H p = none := I.hok.fresh hp
    have J : Inv X pins σ (upd H p (.lst vs)) s' := I.call' (ch := []) ho (Un.laid kp hp hn) (I.hok.laid kp hp ⟨len, out, c, rv, hat⟩) (by rw [hg]; exact I.bare) (fun _ z => nomatch z)
    exact ⟨.ref p, _, J, rfl, q p vs hn few dv⟩
end
/-! ### over data -/
theorem stp_ext {T : Hs} (o : T.Ok) {p : Addr} {φ : Heap → Prop} (n : T.H p = none) : Stp T ⟨T.F, T.G, upd T.H p (.ext φ)⟩ :=
  ⟨⟨o.fg, o.gh.trans (same_new n), fun a ys e => (hlst_tp o (u := .ext φ) (fun _ z => nomatch z) e).2, fun a ob ys e => (hlst_tz o (u := .ext φ) (fun _ _ z => nomatch z) e).2, fun a ys e => o.bd a ys (rd_upd (o := .ext φ) (fun z => nomatch z) (fun _ z => nomatch z) e)⟩, .refl _, .refl _, same_new n, fun _ _ => rfl, fun _ _ => rfl, fz_upd fun _ _ z => nomatch z⟩
end T2
end
section
set_option Elab.async false
set_option linter.all false
set_option autoImplicit false
set_option maxRecDepth 100000
namespace T2
open PySem PySem.Spec L2
open PyProof.Rows hiding St
open PySem.W (alike alikeAll dataLt dataLe)

def asStrs : List PyData → Option (List Str)
  | [] => some []
  | .str x :: ds => (asStrs ds).map (x :: ·)
  | _ :: _ => none
def asKeys : List PyData → Option (List Ky)
  | [] => some []
  | .tuple [.str x, .int i] :: ds => (asKeys ds).map ((x, i) :: ·)
  | _ :: _ => none
theorem asStrs_of : ∀ {ds : List PyData} {zs : List Str}, asStrs ds = some zs → ds = zs.map Py.enc
  | [], _, h => by cases h; rfl
  | d :: ds, zs, h => by
    unfold asStrs at h
    split at h
    · rename_i z; cases z
    · rename_i z
      cases z
      obtain ⟨ws, h1, rfl⟩ := Option.map_eq_some_iff.mp h
      rw [asStrs_of h1]; rfl
    · cases h
theorem asKeys_of : ∀ {ds : List PyData} {zs : List Ky}, asKeys ds = some zs → ds = zs.map Py.enc
  | [], _, h => by cases h; rfl
  | d :: ds, zs, h => by
    unfold asKeys at h
    split at h
    · rename_i z; cases z
    · rename_i z
      cases z
      obtain ⟨ws, h1, rfl⟩ := Option.map_eq_some_iff.mp h
      rw [asKeys_of h1]; rfl
    · cases h
def ssetD : PyData → Option En
  | .list ds => match asStrs ds with
    | some zs => if zs.length < 64 then some (.o true ((sset zs).map Py.enc)) else none
    | none => match asKeys ds with
      | some zs => if zs.length < 64 then some (.o true ((sset zs).map Py.enc)) else none
      | none => none
  | _ => none
def dem (a : Ar) : Ar := (imm a.2, a.2)

/-! ### compiled texts -/
abbrev Fu := List Ar → Option Ar
structure Cf where
  glb : List (Str × PyData)
  fns : List (Str × Fu)
inductive CT where
  | nm (i : Nat)
  | tp (is : List Nat)
inductive Bl | len | all | any | sorted | list | max | min
inductive Tn | list | tuple | str | int | bool
inductive Ik | seq | rng | enu | zip
inductive CE where
  | var (i : Nat)
  | lit (d : PyData)
  | glb (k : Nat)
  | tup (es : List CE)
  | lst (es : List CE)
  | bin (o : Bop) (a b : CE)
  | cmp (o : Cop) (a b : CE)
  | chn (o o' : Cop) (a b c : CE)
  | one (a : CE)
  | and (a b : CE)
  | or (a b : CE)
  | not (a : CE)
  | neg (a : CE)
  | ife (c a b : CE)
  | ix (a b : CE)
  | sl (a lo hi : CE)
  | cal (k : Nat) (es : List CE)
  | blt (o : Bl) (es : List CE)
  | isi (a : CE) (t : Tn)
  | lc (own : List (Str × Nat)) (k : Ik) (es : List CE) (t : CT) (elt : CE)
  | lcf (own : List (Str × Nat)) (k : Ik) (es : List CE) (t : CT) (c elt : CE)
  | pk (i : Nat) (a : CE)
  | new (k : Nat) (es : List CE)
  | sset (a : CE)

/-! ### what they give -/
def lv1 (a : Ar) : Bool := a.1 || imm a.2
def lvs (as : List Ar) : Bool := as.all lv1
def En.tr : En → Option Bool
  | .d _ (.bool c) => some c
  | .d _ (.list xs) => some (!xs.isEmpty)
  | .o _ xs => some (!xs.isEmpty)
  | _ => none
def vl (x : Option En) : Option Ar := x.bind En.val
def asB : PyData → Option Bool
  | .bool c => some c
  | _ => none
def asI : PyData → Option Int
  | .int c => some c
  | _ => none
def bools : List PyData → Option (List Bool)
  | [] => some []
  | d :: ds => (asB d).bind fun c => (bools ds).map (c :: ·)
def tupNe : PyData → Bool
  | .tuple (_ :: _) => true
  | _ => false
def notTN : PyData → Bool
  | .tuple _ => false
  | .none => false
  | _ => true
def srtOk (ds : List PyData) : Bool := (ds.all fun a => ds.all fun b => alike a b) && (ds.all tupNe || ds.all notTN) && ds.all fun d => decide (d.depth ≤ 60)
def srtD (ds : List PyData) : List PyData := ds.mergeSort (dataLe false id)
def bltD : Bl → List Ar → Option En
  | .len, [(_, .list xs)] => some (.d true (.int xs.length))
  | .len, [(_, .tuple xs)] => some (.d true (.int xs.length))
  | .len, [(_, .str z)] => if z.length ≤ sizeLine then some (.d true (.int z.length)) else none
  | .all, [(_, .list xs)] => (bools xs).map fun bs => .d true (.bool (bs.all id))
  | .any, [(_, .list xs)] => (bools xs).map fun bs => .d true (.bool (bs.any id))
  | .sorted, [(b, .list xs)] => if srtOk xs then some (mkO b (srtD xs)) else none
  | .list, [(b, .list xs)] => some (mkO b xs)
  | .max, [(_, .int i), (_, .int j)] => some (.d true (.int (if j > i then j else i)))
  | .min, [(_, .int i), (_, .int j)] => some (.d true (.int (if j < i then j else i)))
  | _, _ => none
def Tn.nm : Tn → String
  | .list => "list"
  | .tuple => "tuple"
  | .str => "str"
  | .int => "int"
  | .bool => "bool"
def isiD : PyData → Tn → Bool
  | .list _, .list => true
  | .tuple _, .tuple => true
  | .str _, .str => true
  | .int _, .int => true
  | .bool _, .int => true
  | .bool _, .bool => true
  | _, _ => false
def itD : Ik → List Ar → Option (Bool × List PyData)
  | .seq, [(b, .list xs)] => some (b, xs)
  | .seq, [(b, .tuple xs)] => if xs.length ≤ sizeLine then some (b, xs) else none
  | .seq, [(_, .str z)] => if z.length ≤ sizeLine then some (true, signs z) else none
  | .rng, [(_, .int j)] => if j ≤ 16777216 ∧ -(2 ^ 62) ≤ j then some (true, (rngL 0 1 j.toNat).map .int) else none
  | .rng, [(_, .int i), (_, .int j)] => if j - i ≤ 16777216 ∧ (-(2 ^ 62) ≤ i ∧ i < 2 ^ 62) ∧ -(2 ^ 62) ≤ j ∧ j < 2 ^ 62 then some (true, (rngL i 1 (j - i).toNat).map .int) else none
  | .rng, [(_, .int i), (_, .int j), (_, .int k)] => if (k ≠ 0 ∧ k.natAbs < 1073741824) ∧ Builtin.Range.small i j k = true ∧ 0 ≤ Builtin.Range.rangeSize i j k ∧ Builtin.Range.rangeSize i j k ≤ 16777216 then some (true, (rngL i k (Builtin.Range.rangeSize i j k).toNat).map .int) else none
  | .enu, [(b, .list xs)] => some (b, enumD xs)
  | .zip, [(b, .list xs), (c, .list ys)] => some (b && c, zipD xs ys)
  | _, _ => none
def tgs : List Nat → List En → Bool → List PyData → Option (List En)
  | [], Γ, _, [] => some Γ
  | i :: is, Γ, b, d :: ds => tgs is (Γ.set i (.d b d)) b ds
  | _, _, _, _ => none
def tgt : CT → List En → Bool → PyData → Option (List En)
  | .nm i, Γ, b, d => some (Γ.set i (.d b d))
  | .tp is, Γ, b, .tuple ds => tgs is Γ b ds
  | _, _, _, _ => none
def CT.slots : CT → List Nat
  | .nm i => [i]
  | .tp is => is
/-- a comprehension's turns -/
def cpr (f : PyData → Option (Option Ar)) : List PyData → Option (List Ar)
  | [] => some []
  | d :: ds => (f d).bind fun r => (cpr f ds).map fun rs => match r with
    | some a => a :: rs
    | none => rs
def mkL (as : List Ar) : En := .o (lvs as) (as.map (·.2))
def ixD (a : Ar) (i : Int) : Option En :=
  match a.2 with
  | .list xs => (atI xs i).map (mkD a.1)
  | .tuple xs => (atI xs i).map (mkD a.1)
  | .str z => if z.length ≤ sizeLine then (atI z.cps.toList i).map fun c => .d true (.str ⟨#[c]⟩) else none
  | _ => none
def isNonLit : CE → Bool
  | .lit .none => true
  | _ => false
def slP (c : CE) (y : Option Ar) : Option (Option Int) := if isNonLit c = true then some none else (y.bind fun y => asI y.2).map some
def slD (a : Ar) (lo hi : Option Int) : Option En :=
  match a.2 with
  | .list xs => some (mkO a.1 (cutL xs lo hi))
  | .str z => if z.length ≤ sizeLine then some (.d true (.str (cutS z lo hi))) else none
  | _ => none
def andD (x : Ar) (y : Option Ar) : Option En :=
  match x.2 with
  | .bool c => cond c (y.bind fun y => (asB y.2).map fun c => .d true (.bool c)) (some (.d true (.bool false)))
  | _ => none
def orD (x : Ar) (y : Option En) : Option En :=
  match x.2 with
  | .bool c => cond c (some (.d true (.bool true))) ((vl y).bind fun y => (asB y.2).map fun c => .d true (.bool c))
  | .list xs => cond xs.isEmpty y (some (.d x.1 (.list xs)))
  | _ => none
mutual
def ev (C : Cf) : CE → List En → Option En
  | .var i, Γ => match Γ[i]? with
    | some (.d b x) => some (.d b x)
    | _ => none
  | .lit d, _ => some (.d true d)
  | .glb k, _ => (C.glb[k]?).map fun p => .d true p.2
  | .tup es, Γ => (evs C es Γ).bind fun as => if as.length ≤ sizeLine then some (.d (lvs as) (.tuple (as.map (·.2)))) else none
  | .lst es, Γ => (evs C es Γ).bind fun as => if as.length ≤ sizeLine then some (mkL as) else none
  | .bin o a b, Γ => (vl (ev C a Γ)).bind fun x => (vl (ev C b Γ)).bind fun y => binD o x y
  | .cmp o a b, Γ => (vl (ev C a Γ)).bind fun x => (vl (ev C b Γ)).bind fun y => (cmpD o x.2 y.2).map fun c => .d true (.bool c)
  | .chn o o' a b c, Γ => (vl (ev C a Γ)).bind fun x => (vl (ev C b Γ)).bind fun y => (cmpD o x.2 y.2).bind fun k => cond k ((vl (ev C c Γ)).bind fun z => (cmpD o' y.2 z.2).map fun c => .d true (.bool c)) (some (.d true (.bool false)))
  | .one a, Γ => ev C a Γ
  | .and a b, Γ => (vl (ev C a Γ)).bind fun x => andD x (vl (ev C b Γ))
  | .or a b, Γ => (vl (ev C a Γ)).bind fun x => orD x (ev C b Γ)
  | .not a, Γ => (vl (ev C a Γ)).bind fun x => (asB x.2).map fun c => .d true (.bool (!c))
  | .neg a, Γ => (vl (ev C a Γ)).bind fun x => (asI x.2).map fun c => .d true (.int (-c))
  | .ife c a b, Γ => ((ev C c Γ).bind En.tr).bind fun k => cond k (ev C a Γ) (ev C b Γ)
  | .ix a b, Γ => (vl (ev C a Γ)).bind fun x => (vl (ev C b Γ)).bind fun y => (asI y.2).bind fun i => ixD x i
  | .sl a lo hi, Γ => (vl (ev C a Γ)).bind fun x => (slP lo (vl (ev C lo Γ))).bind fun l => (slP hi (vl (ev C hi Γ))).bind fun h => slD x l h
  | .cal k es, Γ => (evs C es Γ).bind fun as => (C.fns[k]?).bind fun f => (f.2 as).map fun r => .d r.1 r.2
  | .blt o es, Γ => (evs C es Γ).bind fun as => bltD o as
  | .isi a t, Γ => (vl (ev C a Γ)).map fun x => .d true (.bool (isiD x.2 t))
  | .lc own k es t elt, Γ => (evs C es Γ).bind fun as => (itD k as).bind fun it => (cpr (fun d => (tgt t (wipeE Γ (own.map (·.2))) it.1 d).bind fun Γ1 => (vl (ev C elt Γ1)).map some) it.2).map mkL
  | .lcf own k es t c elt, Γ => (evs C es Γ).bind fun as => (itD k as).bind fun it => (cpr (fun d => (tgt t (wipeE Γ (own.map (·.2))) it.1 d).bind fun Γ1 => ((ev C c Γ1).bind En.tr).bind fun q => cond q ((vl (ev C elt Γ1)).map some) (some none)) it.2).map mkL
  | .pk i a, Γ => match Γ[i]? with
    | some (.o b xs) => (vl (ev C a (Γ.set i (.d b (.list xs))))).bind fun y => if imm y.2 then some (.d true y.2) else none
    | some (.w (.tree d)) => (vl (ev C a (Γ.set i (.d true d)))).bind fun y => if imm y.2 then some (.d true y.2) else none
    | _ => none
  | .new k es, Γ => (evs C es Γ).bind fun as => (C.fns[k]?).bind fun f => (f.2 (as.map dem)).bind fun r => if r.1 then some (.w (.tree r.2)) else none
  | .sset a, Γ => (vl (ev C a Γ)).bind fun x => ssetD x.2
def evs (C : Cf) : List CE → List En → Option (List Ar)
  | [], _ => some []
  | e :: es, Γ => (vl (ev C e Γ)).bind fun a => (evs C es Γ).map (a :: ·)
end

/-! ### statements -/
inductive CS where
  | ret (e : CE)
  | set (i : Nat) (e : CE)
  | own (i : Nat) (e : CE)
  | unp (t : CT) (e : CE)
  | par (xs : List (Nat × Bool × CE))
  | exp (e : CE)
  | app (i : Nat) (e : CE)
  | ext (i : Nat) (e : CE)
  | ifs (c : CE) (a b : List CS)
  | fo (k : Ik) (es : List CE) (t : CT) (body : List CS)
  | wh (n : Nat) (c : CE) (body : List CS)
  | brk
  | bad
  | clo (i : Nat)
  | spl (i j : Nat) (its : List (Option Int × CE))
  | apu (i : Nat) (e : CE)
/-- a statement's end, and what follows it -/
def Out.thn (o : Out) (f : List En → Option Out) : Option Out := match o with
  | .nx Γ' => f Γ'
  | o => some o
/-- a list's loop -/
def lop (f : List En → PyData → Option Out) : List En → List PyData → Option Out
  | Γ, [] => some (.nx Γ)
  | Γ, d :: ds => (f Γ d).bind fun o => match o with
    | .nx Γ' => lop f Γ' ds
    | .ct Γ' => lop f Γ' ds
    | .bk Γ' => some (.nx Γ')
    | .rt b x => some (.rt b x)
def whl (t : List En → Option Bool) (f : List En → Option Out) : Nat → List En → Option Out
  | 0, Γ => (t Γ).bind fun c => match c with
    | false => some (.nx Γ)
    | true => none
  | n + 1, Γ => (t Γ).bind fun c => match c with
    | false => some (.nx Γ)
    | true => (f Γ).bind fun o => match o with
      | .nx Γ' => whl t f n Γ'
      | .ct _ => none
      | .bk Γ' => some (.nx Γ')
      | .rt b x => some (.rt b x)
/-- stored: a datum, or a list of one's own -/
def sto (Γ : List En) (i : Nat) (own : Bool) (en : En) : Option (List En) :=
  match own, en with
  | true, .o b xs => some (Γ.set i (.o b xs))
  | true, _ => none
  | false, en => en.val.map fun a => Γ.set i (.d a.1 a.2)
def enOf (own : Bool) (en : En) : Option En :=
  match own, en with
  | true, .o b xs => some (.o b xs)
  | true, .w k => some (.w k)
  | true, _ => none
  | false, en => en.val.map fun a => .d a.1 a.2
/-- grown by one datum -/
def gro (Γ : List En) (i : Nat) (a : Ar) : Option (List En) :=
  match Γ[i]? with
  | some (.o b xs) => if xs.length < sizeLine then some (Γ.set i (.o (b && lv1 a) (xs ++ [a.2]))) else none
  | _ => none
def groL (Γ : List En) (i : Nat) (en : En) : Option (List En) :=
  match Γ[i]?, en with
  | some (.o b xs), .o c ys => if xs.length + ys.length ≤ sizeLine then some (Γ.set i (.o (b && c) (xs ++ ys))) else none
  | _, _ => none
def evp (C : Cf) : List (Nat × Bool × CE) → List En → Option (List (Nat × En))
  | [], _ => some []
  | x :: r, Γ => ((ev C x.2.2 Γ).bind (enOf x.2.1)).bind fun en => (evp C r Γ).map ((x.1, en) :: ·)
def sets (Γ : List En) : List (Nat × En) → List En
  | [] => Γ
  | x :: r => sets (Γ.set x.1 x.2) r
/-- a tuple that is more than texts -/
def isS : PyData → Bool
  | .str _ => true
  | _ => false
def hard (ds : List PyData) : Bool := decide (2 ≤ ds.length) && !ds.all isS
/-- no value is both -/
def conf : PyData → PyData → Bool
  | .tuple xs, .tuple ys => hard xs && hard ys && !decide (xs.length = ys.length)
  | .tuple xs, .list _ => hard xs
  | .list _, .tuple ys => hard ys
  | .tuple _, .str _ => true
  | .tuple _, .int _ => true
  | .tuple _, .bool _ => true
  | .tuple _, .none => true
  | .list _, .str _ => true
  | .list _, .int _ => true
  | .list _, .bool _ => true
  | .list _, .none => true
  | _, _ => false
/-! for v in x: v[c].append(e) .. -/
abbrev SpI := Option Int × CE
def tgL : Option Int → PyData → Option (List PyData)
  | none, .list ys => some ys
  | some c, .tuple ds => match atI ds c with
    | some (.list ys) => some ys
    | _ => none
  | _, _ => none
def spOne (C : Cf) (Γ : List En) (r0 : PyData) (m : Nat) (r : PyData) (it : SpI) : Bool :=
  (match tgL it.1 r with
  | some ys => decide (ys.length + m < sizeLine) && (match ys with | [] => true | y :: _ => conf r0 y)
  | none => false) && (vl (ev C it.2 Γ)).isSome
def spAll (C : Cf) (Γ : List En) (its : List SpI) (rows : List PyData) : Bool := match rows with
  | [] => true
  | r0 :: _ => rows.all fun r => its.all fun it => spOne C Γ r0 (rows.length * its.length) r it
def wlen : Wk → Option Nat
  | .ul n => some n
  | .tree (.list xs) => some xs.length
  | _ => none
mutual
def exS (C : Cf) : CS → List En → Option Out
  | .ret e, Γ => (vl (ev C e Γ)).map fun a => .rt (lv1 a) a.2
  | .set i e, Γ => (vl (ev C e Γ)).map fun a => .nx (Γ.set i (.d a.1 a.2))
  | .own i e, Γ => ((ev C e Γ).bind (enOf true)).map fun en => .nx (Γ.set i en)
  | .unp t e, Γ => (vl (ev C e Γ)).bind fun a => (tgt t Γ a.1 a.2).map .nx
  | .par xs, Γ => (evp C xs Γ).map fun es => .nx (sets Γ es)
  | .exp e, Γ => (vl (ev C e Γ)).map fun _ => .nx Γ
  | .app i e, Γ => (vl (ev C e Γ)).bind fun a => (gro Γ i a).map .nx
  | .ext i e, Γ => (ev C e Γ).bind fun a => (groL Γ i a).map .nx
  | .ifs c a b, Γ => ((ev C c Γ).bind En.tr).bind fun k => cond k (exB C a Γ) (exB C b Γ)
  | .fo k es t body, Γ => (evs C es Γ).bind fun as => (itD k as).bind fun it => lop (fun Γ d => (tgt t Γ it.1 d).bind fun Γ1 => exB C body Γ1) Γ it.2
  | .wh n c body, Γ => whl (fun Γ => (ev C c Γ).bind En.tr) (fun Γ => exB C body Γ) n Γ
  | .brk, Γ => some (.bk Γ)
  | .bad, _ => none
  | .clo _, _ => none
  | .spl i j its, Γ => match Γ[i]? with
    | some (.w (.tree (.list rows))) => if i ≠ j ∧ j < Γ.length ∧ spAll C ((Γ.set i .no).set j .no) its rows = true then some (.nx ((Γ.set j .no).set i (.w (.ul rows.length)))) else none
    | _ => none
  | .apu i e, Γ => match Γ[i]? with
    | some (.w k) => (wlen k).bind fun n => (vl (ev C e (Γ.set i .no))).bind fun _ => if n < sizeLine then some (.nx (Γ.set i (.w (.ul (n + 1))))) else none
    | _ => none
def exB (C : Cf) : List CS → List En → Option Out
  | [], Γ => some (.nx Γ)
  | .clo i :: r, Γ => match Γ[i]? with
    | some (.o b xs) => exB C r (Γ.set i (.d b (.list xs)))
    | some (.w (.tree d)) => exB C r (Γ.set i (.d true d))
    | _ => none
  | s :: r, Γ => (exS C s Γ).bind fun o => Out.thn o fun Γ' => exB C r Γ'
end
def Out.res : Out → Option Ar
  | .rt b d => some (b, d)
  | .nx _ => some (true, .none)
  | _ => none
/-- a def -/
def run (C : Cf) (np n : Nat) (body : List CS) : Fu := fun as =>
  if as.length = np then
    (exB C body (as.map (fun a => .d a.1 a.2) ++ List.replicate (n - as.length) .no)).bind Out.res
  else none
end T2
end
section
set_option Elab.async false
set_option linter.all false
set_option autoImplicit false
set_option maxRecDepth 100000
namespace T2
open PySem PySem.Spec L2
open PyProof.Rows hiding St

/-! ### whether a compiled text is a text's -/
structure Sx where
  N : List Str
  sc : Scope
  fn : Str → Bool
  C : Cf
def visB (sc : Scope) (x : Str) : Bool := match sc.names.lookup x with
  | some .local => true
  | some .cell => true
  | some .free => true
  | _ => false
def locB (sc : Scope) (x : Str) : Bool := match sc.names.lookup x with
  | some .local => true
  | some .cell => true
  | _ => false
def isLoc (sc : Scope) (x : Str) : Bool := match sc.names.lookup x with
  | some .local => true
  | _ => false
def gloB (sc : Scope) (x : Str) : Bool := match sc.names.lookup x with
  | some .globalImplicit => true
  | _ => false
def notStar : Expr → Bool
  | .Starred .. => false
  | _ => true
def notSet : Expr → Bool
  | .Set .. => false
  | _ => true
def notComp : Expr → Bool
  | .ListComp .. => false
  | .SetComp .. => false
  | .DictComp .. => false
  | _ => true
def notSlice : Expr → Bool
  | .Slice .. => false
  | _ => true
def notIfx : Expr → Bool
  | .IfExp .. => false
  | _ => true
def isBop : Expr → Bool
  | .BoolOp .. => true
  | _ => false
def plainT : Expr → Bool
  | .UnaryOp .Not _ _ => false
  | .BoolOp .. => false
  | .IfExp .. => false
  | .Compare .. => false
  | _ => true
def eqS (x : Str) (y : String) : Bool := decide (x = Str.ofString y)
def litB : Const → PyData → Bool
  | .int i, .int j => decide (i = j)
  | .str i, .str j => decide (i = j)
  | .bool i, .bool j => decide (i = j)
  | .none, .none => true
  | _, _ => false
def Bop.ok (o : Bop) (p : Operator) : Bool := match o, p with
  | .add, .Add => true
  | .sub, .Sub => true
  | .mul, .Mult => true
  | .fdv, .FloorDiv => true
  | .mod, .Mod => true
  | .shr, .RShift => true
  | .band, .BitAnd => true
  | .pow, .Pow => true
  | _, _ => false
def Cop.ok (o : Cop) (p : CmpOp) : Bool := match o, p with
  | .eq, .Eq => true
  | .ne, .NotEq => true
  | .lt, .Lt => true
  | .le, .LtE => true
  | .gt, .Gt => true
  | .ge, .GtE => true
  | .isIn, .In => true
  | .notIn, .NotIn => true
  | .is, .Is => true
  | .isNot, .IsNot => true
  | _, _ => false
theorem bop_ok {o : Bop} {p : Operator} (h : o.ok p = true) : p = o.op := by
  cases o <;> cases p <;> first | rfl | (simp [Bop.ok] at h)
theorem cop_ok {o : Cop} {p : CmpOp} (h : o.ok p = true) : p = o.op := by
  cases o <;> cases p <;> first | rfl | (simp [Cop.ok] at h)
def Bl.nm : Bl → String
  | .len => "len"
  | .all => "all"
  | .any => "any"
  | .sorted => "sorted"
  | .list => "list"
  | .max => "max"
  | .min => "min"
def chkN (S : Sx) (x : Str) (i : Nat) : Bool := decide (S.N[i]? = some x) && locB S.sc x && (S.fn x || isLoc S.sc x)
def chkTs (S : Sx) : List Expr → List Nat → Bool
  | [], [] => true
  | e :: es, i :: is => (match e with | .Name x _ => chkN S x i && chkTs S es is | _ => false)
  | _, _ => false
def chkT (S : Sx) (e : Expr) : CT → Bool
  | .nm i => (match e with | .Name x _ => chkN S x i | _ => false)
  | .tp is => (match e with | .Tuple es _ _ => chkTs S es is | _ => false)
def isTp : CT → Bool
  | .tp _ => true
  | _ => false
def Sx.blk (S : Sx) (sc : Scope) : Sx := { S with sc := relS sc S.sc, fn := fun x => sc.names.lookup x == some .cell }
/-- a call by a name, without keywords -/
def calN : Expr → Option (Str × List Expr)
  | .Call (.Name x _) xs [] _ => some (x, xs)
  | _ => none
def cmp1 : Expr → Option (Expr × CmpOp × Expr)
  | .Compare x [p] [y] _ => some (x, p, y)
  | _ => none
def cmp2 : Expr → Option (Expr × CmpOp × Expr × CmpOp × Expr)
  | .Compare x [p, p'] [y, z] _ => some (x, p, y, p', z)
  | _ => none
def bopC (o : Bool) : Expr → Option (Expr × Expr)
  | .BoolOp .And (x :: y :: r) p => if o then some (x, .BoolOp .And (y :: r) p) else none
  | .BoolOp .Or (x :: y :: r) p => if o then none else some (x, .BoolOp .Or (y :: r) p)
  | _ => none
def bop1 : Expr → Option Expr
  | .BoolOp _ [x] _ => some x
  | _ => none
def slcE : Expr → Option (Expr × Option Expr × Option Expr)
  | .Subscript x (.Slice l h none _) _ => some (x, l, h)
  | _ => none
def isiE : Expr → Option (Str × Expr × Str)
  | .Call (.Name x _) [y, .Name z _] [] _ => some (x, y, z)
  | _ => none
def ssE : Expr → Option (Str × Str × Expr)
  | .Call (.Name x _) [.Call (.Name y _) [z] [] _] [] _ => some (x, y, z)
  | _ => none
structure LcE where
  e : Expr
  tg : Expr
  it : Expr
  f : List Expr
  sc : Scope
def lcE : Expr → Option LcE
  | .ListComp e [⟨tg, it, ifs, ad⟩] sc _ => if ad = 0 then some ⟨e, tg, it, ifs, sc⟩ else none
  | _ => none
def chkI (S : Sx) (k : Ik) (f : List Expr → Bool) (it : Expr) : Bool := match k with
  | .seq => f [it]
  | .rng => (match calN it with | some (x, xs) => eqS x "range" && gloB S.sc x && f xs | none => false)
  | .enu => (match calN it with | some (x, xs) => eqS x "enumerate" && gloB S.sc x && f xs | none => false)
  | .zip => (match calN it with | some (x, xs) => eqS x "zip" && gloB S.sc x && f xs | none => false)
def Ik.two : Ik → Bool
  | .enu => true
  | .zip => true
  | _ => false
mutual
def chk (S : Sx) : CE → Expr → Bool
  | .var i, e => (match e with | .Name x _ => decide (S.N[i]? = some x) && visB S.sc x && !eqS x "__debug__" && !eqS x "__classdict__" | _ => false)
  | .lit d, e => (match e with | .Constant c _ _ => litB c d | _ => false)
  | .glb k, e => (match e with | .Name x _ => (match S.C.glb[k]? with | some p => decide (p.1 = x) | none => false) && gloB S.sc x && !eqS x "__debug__" | _ => false)
  | .tup es, e => (match e with | .Tuple xs _ _ => chks S es xs | _ => false)
  | .lst es, e => (match e with | .List xs _ => chks S es xs | _ => false)
  | .bin o a b, e => (match e with | .BinOp x p y _ => o.ok p && chk S a x && chk S b y | _ => false)
  | .cmp o a b, e => (match cmp1 e with | some (x, p, y) => o.ok p && notSet y && chk S a x && chk S b y | none => false)
  | .chn o o' a b c, e => (match cmp2 e with | some (x, p, y, p', z) => o.ok p && o'.ok p' && notSet z && chk S a x && chk S b y && chk S c z | none => false)
  | .one a, e => (match bop1 e with | some x => notIfx x && chk S a x | none => false)
  | .and a b, e => (match bopC true e with | some (x, y) => notIfx x && chk S a x && chk S b y | none => false)
  | .or a b, e => (match bopC false e with | some (x, y) => notIfx x && chk S a x && chk S b y | none => false)
  | .not a, e => (match e with | .UnaryOp .Not x _ => notIfx x && chk S a x | _ => false)
  | .neg a, e => (match e with | .UnaryOp .USub x _ => chk S a x | _ => false)
  | .ife c a b, e => (match e with | .IfExp z x y _ => notIfx z && chk S c z && chk S a x && chk S b y | _ => false)
  | .ix a b, e => (match e with | .Subscript x y _ => notSlice y && chk S a x && chk S b y | _ => false)
  | .sl a lo hi, e => (match slcE e with | some (x, l, h) => chk S a x && (match l with | some l => !isNonLit lo && chk S lo l | none => isNonLit lo) && (match h with | some h => !isNonLit hi && chk S hi h | none => isNonLit hi) | none => false)
  | .cal k es, e => (match calN e with | some (x, xs) => (match S.C.fns[k]? with | some p => decide (p.1 = x) | none => false) && gloB S.sc x && !eqS x "__debug__" && chks S es xs | none => false)
  | .blt o es, e => (match calN e with | some (x, xs) => eqS x o.nm && gloB S.sc x && chks S es xs | none => false)
  | .isi a t, e => (match isiE e with | some (x, y, z) => eqS x "isinstance" && gloB S.sc x && eqS z t.nm && gloB S.sc z && notStar y && chk S a y | none => false)
  | .lc own k es t elt, e => (match lcE e with | some L => blkC S.N S.sc L.sc own && L.f.isEmpty && notSet L.it && chkI S k (fun xs => chks S es xs) L.it && (isTp t || !k.two) && (t.slots.all fun v => decide (v ∈ own.map (·.2))) && chkT (S.blk L.sc) L.tg t && chk (S.blk L.sc) elt L.e | none => false)
  | .lcf own k es t c elt, e => (match lcE e with | some L => blkC S.N S.sc L.sc own && notSet L.it && chkI S k (fun xs => chks S es xs) L.it && (isTp t || !k.two) && (t.slots.all fun v => decide (v ∈ own.map (·.2))) && chkT (S.blk L.sc) L.tg t && (match L.f with | [f] => notIfx f && chk (S.blk L.sc) c f | _ => false) && chk (S.blk L.sc) elt L.e | none => false)
  | .pk _ a, x => !isBop x && chk S a x
  | .new k es, e => (match calN e with | some (x, xs) => (match S.C.fns[k]? with | some p => decide (p.1 = x) | none => false) && gloB S.sc x && !eqS x "__debug__" && !es.isEmpty && chks S es xs | none => false)
  | .sset a, e => (match ssE e with | some (x, y, z) => eqS x "sorted" && eqS y "set" && gloB S.sc x && gloB S.sc y && notStar z && chk S a z | none => false)
def chks (S : Sx) : List CE → List Expr → Bool
  | [], xs => xs.isEmpty
  | e :: es, xs => (match xs with | x :: xs => notStar x && chk S e x && chks S es xs | [] => false)
end
end T2
end
section
set_option Elab.async false
set_option linter.all false
set_option autoImplicit false
set_option maxRecDepth 100000
namespace T2
open PySem PySem.Spec L2
open PyProof.Rows hiding St
open PySem.W (alike alikeAll dataLt dataLe EachIs)

/-! ### shapes -/
theorem star_cons {x : Expr} (h : notStar x = true) (es : List Expr) (env : Env) : starEach (x :: es) env = (false, eval x env) :: starEach es env := by
  cases x <;> first | rfl | (simp [notStar] at h)
theorem isTrue_plain {e : Expr} (h : plainT e = true) (env : Env) (whole : Sem Value) : isTrue e env whole = (do let v ← whole; standAt e.pos; holding [v] (truthy v)) := by
  cases e with
  | UnaryOp op x p => cases op <;> first | rfl | (simp [plainT] at h)
  | _ => first | rfl | (simp [plainT] at h)
theorem vis_of {sc : Scope} {x : Str} (h : visB sc x = true) : Vis sc x := by
  unfold visB at h
  split at h
  · exact .inl ‹_›
  · exact .inr (.inl ‹_›)
  · exact .inr (.inr ‹_›)
  · cases h
theorem loc_of {sc : Scope} {x : Str} (h : locB sc x = true) : Loc sc x := by
  unfold locB at h
  split at h
  · exact .inl ‹_›
  · exact .inr ‹_›
  · cases h
theorem isLoc_of {sc : Scope} {x : Str} (h : isLoc sc x = true) : sc.names.lookup x = some .local := by
  unfold isLoc at h
  split at h
  · assumption
  · cases h
theorem glo_of {sc : Scope} {x : Str} (h : gloB sc x = true) : sc.names.lookup x = some .globalImplicit := by
  unfold gloB at h
  split at h
  · assumption
  · cases h
theorem eqS_of {x : Str} {y : String} (h : eqS x y = true) : x = Str.ofString y := of_decide_eq_true h
theorem neS_of {x : Str} {y : String} (h : (!eqS x y) = true) : (x == (Str.ofString y)) = false := by
  unfold eqS at h
  have : ¬ x = Str.ofString y := by simpa using h
  simpa using this
theorem mark_of {op : CmpOp} {e : Expr} (h : notSet e = true) : behindInMarks op e = false := by
  cases e <;> first | rfl | (simp [notSet] at h)
theorem marks_of {op op' : CmpOp} {e f : Expr} (h : notSet f = true) : lastMarks [op, op'] [e, f] = false := mark_of h
theorem plainIx_of {e : Expr} (h : notSlice e = true) : PlainIx e := by
  intro o i
  cases e <;> first | rfl | (simp [notSlice] at h)
theorem fold_of {e : Expr} (h : notSet e = true) (env : Env) (x : Value) : foldedSetIterable e env x = pure x := by
  cases e <;> first | rfl | (simp [notSet] at h)

/-! ### what a checker's context says of a family -/
def bltNames : List String := ["len", "all", "any", "sorted", "list", "max", "min", "isinstance", "range", "enumerate", "zip", "tuple", "str", "int", "bool", "set"]
structure SOk (F : Fm) (S : Sx) : Prop where
  n : F.N = S.N
  sc : ∀ p, (F.X p).env.scope = S.sc
  fn : ∀ p x, S.fn x = true → (F.X p).fn x = true
  bl : ∀ x ∈ bltNames, F.mg (Str.ofString x) = none
  gl : ∀ (k : Nat) (q : Str × PyData), S.C.glb[k]? = some q → (∃ i t, q.2 = .int i ∧ F.mg q.1 = some (.int i t)) ∨ ∃ i t, q.2 = .str i ∧ F.mg q.1 = some (.str i t)
  fs : ∀ (k : Nat) (q : Str × Fu), S.C.fns[k]? = some q → ∃ l, l ≤ F.k ∧ FnD F.P F.w F.K F.mg F.base l q.1 (fun as r => q.2 as = some r)
section
variable {F : Fm} {S : Sx} {Γ : List En}
theorem SOk.blk (h : SOk F S) (sc : Scope) : SOk (F.blk sc) (S.blk sc) where
  n := h.n
  sc := fun q => by
    show relS sc (F.X q.1).env.scope = relS sc S.sc
    rw [h.sc q.1]
  fn := fun q x e => e
  bl := h.bl
  gl := h.gl
  fs := h.fs
theorem SOk.gk (h : SOk F S) {x : Str} (g : gloB S.sc x = true) (p : F.I) : Gl (F.X p) x := by
  show (F.X p).env.scope.names.lookup x = some .globalImplicit
  rw [h.sc p]; exact glo_of g
theorem SOk.vis (h : SOk F S) {x : Str} (g : visB S.sc x = true) (p : F.I) : Vis (F.X p).env.scope x := by
  rw [h.sc p]; exact vis_of g
theorem SOk.loc (h : SOk F S) {x : Str} (g : locB S.sc x = true) (p : F.I) : Loc (F.X p).env.scope x := by
  rw [h.sc p]; exact loc_of g

/-! ### levels -/
theorem ata_lv {K : PySem.W.Frag} {T : Hs} (o : T.Ok) {b : Bool} : ∀ {vs : List V} {as : List Ar}, AtA K T vs as → (b = true → lvs as = true) → DpAll K (T.lv b) vs (as.map (·.2))
  | [], [], _, _ => .nil
  | v :: vs, a :: as, h, q => by
    refine .cons ?_ (ata_lv o h.2 fun e => ?_)
    · cases b with
      | true =>
        have := q rfl
        simp only [lvs, List.all_cons, Bool.and_eq_true, lv1, Bool.or_eq_true] at this
        rcases this.1 with z | z
        · have := h.1; rw [z] at this; exact this
        · exact imm_l o h.1 z true
      | false => exact up h.1 (o.lg a.1)
    · have := q e
      simp only [lvs, List.all_cons, Bool.and_eq_true] at this ⊢
      exact this.2
  | [], _ :: _, h, _ => h.elim
  | _ :: _, [], h, _ => h.elim
theorem evp_lv {e : Expr} {a : Ar} {b : Bool} (h : EvP F e Γ a.1 a.2) (q : b = true → lv1 a = true) : EvP F e Γ b a.2 := by
  cases b with
  | false => exact ev_low h
  | true =>
    have := q rfl
    simp only [lv1, Bool.or_eq_true] at this
    rcases this with z | z
    · rw [z] at h; exact h
    · exact ev_imm h z
theorem EnNew.pre {K : PySem.W.Frag} {T T1 T2 : Hs} {v : V} {e : En} (s : Stp T T1) (h : EnNew K T1 T2 v e) : EnNew K T T2 v e := by
  cases e with
  | no => trivial
  | d b x => exact h
  | o b xs =>
    obtain ⟨l, vs, e1, e2, e3⟩ := h
    exact ⟨l, vs, e1, s.h.free e2, e3⟩
  | w k =>
    obtain ⟨R, e1, e2, e3⟩ := h
    exact ⟨R, e1, e2, fun a o e t => ⟨s.h.free (e3 a o e t).1, (e3 a o e t).2⟩⟩
theorem ev_tupX {es : List Expr} {k : Nat} {pos : Pos} {as : List Ar} (h : EvA F es Γ as) (hl : as.length ≤ sizeLine) : EvP F (.Tuple es k pos) Γ (lvs as) (.tuple (as.map (·.2))) := fun T0 T σ ok Q hQ =>
  wpE_of (fun _ => tTup (wpA F es)) (fun p => pe_tup (pa_wp p)) fun _ => h T0 T σ ok _ fun vs T1 s1 q1 => by
    refine ⟨by rw [ata_len q1]; exact hl, fun p n => ?_⟩
    have s2 := stp_tup s1.ok (xs := vs) n
    exact hQ (.ref p) (T1.tup p vs) (s1.trans s2) (.tup (.of tup_at) (upA (ata_lv s1.ok q1 id) (s2.l _)))
theorem en_lstX {es : List Expr} {pos : Pos} {as : List Ar} (h : EvA F es Γ as) (hl : as.length ≤ sizeLine) : EvN F (.List es pos) Γ (lvs as) (as.map (·.2)) := fun T0 T σ ok Q hQ =>
  wpE_of (fun _ => tLst (wpA F es)) (fun p => pe_lst (pa_wp p)) fun _ => h T0 T σ ok _ fun vs T1 s1 q1 => by
    have hz : vs.length ≤ sizeLine := by rw [ata_len q1]; exact hl
    refine ⟨hz, fun p n => ?_⟩
    have s2 := stp_opn s1.ok (xs := vs) n hz
    exact hQ p vs (T1.opn p vs) (s1.trans s2) (s1.h.free n) (s1.ok.gn n) upd_same (upA (ata_lv s1.ok q1 id) (s2.l _))

/-! ### operators -/
theorem evx_bin {op : Operator} {a b : Expr} {pos : Pos} {x y : Ar} {r : En} (ho : OpD F (binaryOp op) x y r) (ha : EvP F a Γ x.1 x.2) (hb : EvP F b Γ y.1 y.2) : EvX F (.BinOp a op b pos) Γ r := fun T0 T σ ok Q hQ =>
  wpE_of (fun p => tOp (wpOp F (binaryOp op)) (wpE F a) (wpE F b)) (fun p => pe_op (opr_wp p) (pe_wp p) (pe_wp p)) fun p => ha T0 T σ ok _ fun u T1 s1 q1 => hb T0 T1 σ (ok.stp s1) _ fun w T2 s2 q2 =>
    ho T2 u w Q s2.ok (up q1 (s2.l _)) q2 fun v T' s' q' => hQ v T' (s1.trans (s2.trans s')) (q'.pre (s1.trans s2))
theorem evp_cmp {op : CmpOp} {a b : Expr} {pos : Pos} {x y : Ar} {c : Bool} (ho : OpD F (compareOp op) x y (.d true (.bool c))) (ha : EvP F a Γ x.1 x.2) (hb : EvP F b Γ y.1 y.2) (hm : behindInMarks op b = false) : EvP F (.Compare a [op] [b] pos) Γ true (.bool c) := fun T0 T σ ok Q hQ =>
  wpE_of (fun p => tOp (wpOp F (compareOp op)) (wpE F a) (wpE F b)) (fun p => pe_cmpR (opr_wp p) (pe_wp p) (pe_wp p) hm) fun p => ha T0 T σ ok _ fun u T1 s1 q1 => hb T0 T1 σ (ok.stp s1) _ fun w T2 s2 q2 =>
    ho T2 u w Q s2.ok (up q1 (s2.l _)) q2 fun v T' s' q' => hQ v T' (s1.trans (s2.trans s')) q'
theorem ts_cmpX {op : CmpOp} {a b : Expr} {pos : Pos} {x y : Ar} {c : Bool} (ho : OpD F (compareOp op) x y (.d true (.bool c))) (ha : EvP F a Γ x.1 x.2) (hb : EvP F b Γ y.1 y.2) (hm : behindInMarks op b = false) : TsP F (.Compare a [op] [b] pos) Γ c := fun T0 T σ ok Q hQ =>
  wpT_of (fun p => tTest (tOp (wpOp F (compareOp op)) (wpE F a) (wpE F b))) (fun p => pt_cmpR (opr_wp p) (pe_wp p) (pe_wp p) hm) fun p => ha T0 T σ ok _ fun u T1 s1 q1 => hb T0 T1 σ (ok.stp s1) _ fun w T2 s2 q2 =>
    ho T2 u w _ s2.ok (up q1 (s2.l _)) q2 fun v T' s' q' => by
      have q' : Dp F.K (T'.lv true) v (.bool c) := q'
      cases q'
      exact ⟨c, rfl, hQ T' (s1.trans (s2.trans s'))⟩
theorem chain_run {op op' : CmpOp} {a b c : Expr} {x y z : Ar} {k k' : Bool} (ho : OpD F (compareOp op) x y (.d true (.bool k))) (ho' : k = true → OpD F (compareOp op') y z (.d true (.bool k'))) (ha : EvP F a Γ x.1 x.2) (hb : EvP F b Γ y.1 y.2) (hc : k = true → EvP F c Γ z.1 z.2)
    (T0 T : Hs) (σ : St) (ok : EnvOk F.K T0 T σ Γ) (Q : VK) (hQ : ∀ T', Stp T T' → Q (.bl (k && k')) T'.H) : tChain (wpOp F (compareOp op)) (wpOp F (compareOp op')) (wpE F a) (wpE F b) (wpE F c) σ T.H Q :=
  ha T0 T σ ok _ fun u T1 s1 q1 => hb T0 T1 σ (ok.stp s1) _ fun w T2 s2 q2 =>
    ho T2 u w _ s2.ok (up q1 (s2.l _)) q2 fun v T3 s3 q3 => by
      have q3 : Dp F.K (T3.lv true) v (.bool k) := q3
      cases q3
      refine ⟨k, rfl, ?_⟩
      have s := s1.trans (s2.trans s3)
      cases k with
      | false =>
        rw [if_neg Bool.false_ne_true]
        exact hQ T3 s
      | true =>
        rw [if_pos rfl]
        refine hc rfl T0 T3 σ (ok.stp s) _ fun t T4 s4 q4 => ho' rfl T4 w t Q s4.ok (up q2 ((s3.trans s4).l _)) q4 fun v T5 s5 q5 => ?_
        have q5 : Dp F.K (T5.lv true) v (.bool k') := q5
        cases q5
        exact hQ T5 (s.trans (s4.trans s5))
theorem evp_chn {op op' : CmpOp} {a b c : Expr} {pos : Pos} {x y z : Ar} {k k' : Bool} (ho : OpD F (compareOp op) x y (.d true (.bool k))) (ho' : k = true → OpD F (compareOp op') y z (.d true (.bool k'))) (ha : EvP F a Γ x.1 x.2) (hb : EvP F b Γ y.1 y.2) (hc : k = true → EvP F c Γ z.1 z.2) (hm : lastMarks [op, op'] [b, c] = false) :
    EvP F (.Compare a [op, op'] [b, c] pos) Γ true (.bool (k && k')) := fun T0 T σ ok Q hQ =>
  wpE_of (fun p => tChain (wpOp F (compareOp op)) (wpOp F (compareOp op')) (wpE F a) (wpE F b) (wpE F c)) (fun p => pe_chain (opr_wp p) (opr_wp p) (pe_wp p) (pe_wp p) (pe_wp p) hm) fun p =>
    chain_run ho ho' ha hb hc T0 T σ ok Q fun T' s => hQ _ T' s (.bl _)
theorem ts_chn {op op' : CmpOp} {a b c : Expr} {pos : Pos} {x y z : Ar} {k k' : Bool} (ho : OpD F (compareOp op) x y (.d true (.bool k))) (ho' : k = true → OpD F (compareOp op') y z (.d true (.bool k'))) (ha : EvP F a Γ x.1 x.2) (hb : EvP F b Γ y.1 y.2) (hc : k = true → EvP F c Γ z.1 z.2) (hm : lastMarks [op, op'] [b, c] = false) :
    TsP F (.Compare a [op, op'] [b, c] pos) Γ (k && k') := fun T0 T σ ok Q hQ =>
  wpT_of (fun p => tTest (tChain (wpOp F (compareOp op)) (wpOp F (compareOp op')) (wpE F a) (wpE F b) (wpE F c))) (fun p => pt_chain (opr_wp p) (opr_wp p) (pe_wp p) (pe_wp p) (pe_wp p) hm) fun p =>
    chain_run ho ho' ha hb hc T0 T σ ok _ fun T' s => ⟨_, rfl, hQ T' s⟩
theorem evp_neg {a : Expr} {pos : Pos} {l : Bool} {i : Int} (h : EvP F a Γ l (.int i)) : EvP F (.UnaryOp .USub a pos) Γ true (.int (-i)) := fun T0 T σ ok Q hQ =>
  wpE_of (fun _ => tUn (rU fun i => .int (-i)) (wpE F a)) (fun p => pe_un un_neg (pe_wp p)) fun _ => h T0 T σ ok _ fun v T1 s1 q1 => by
    cases q1
    exact ⟨i, rfl, hQ _ T1 s1 (.int _)⟩
theorem evx_one {op : BoolOp} {a : Expr} {pos : Pos} {en : En} (h : EvX F a Γ en) : EvX F (.BoolOp op [a] pos) Γ en := fun T0 T σ ok Q hQ =>
  wpE_of (fun _ => wpE F a) (fun p => pe_one (pe_wp p)) fun _ => h T0 T σ ok Q hQ
theorem evx_ifx {c a b : Expr} {pos : Pos} {k : Bool} {en : En} (h : TsP F c Γ k) (h1 : k = true → EvX F a Γ en) (h2 : k = false → EvX F b Γ en) : EvX F (.IfExp c a b pos) Γ en := fun T0 T σ ok Q hQ =>
  wpE_of (fun _ => tIf (wpT F c) (wpE F a) (wpE F b)) (fun p => pe_ifExp (pt_wp p) (pe_wp p) (pe_wp p)) fun _ => h T0 T σ ok _ fun T1 s1 => by
    cases k with
    | true =>
      rw [if_pos rfl]
      exact h1 rfl T0 T1 σ (ok.stp s1) Q fun v T2 s2 q2 => hQ v T2 (s1.trans s2) (q2.pre s1)
    | false =>
      rw [if_neg Bool.false_ne_true]
      exact h2 rfl T0 T1 σ (ok.stp s1) Q fun v T2 s2 q2 => hQ v T2 (s1.trans s2) (q2.pre s1)
/-- xs or y, xs a list -/
theorem evx_orL {a b : Expr} {rest : List Expr} {pos : Pos} {l : Bool} {xs : List PyData} {en : En} (h : EvP F a Γ l (.list xs)) (h1 : xs.isEmpty = false → en = .d l (.list xs)) (h2 : xs.isEmpty = true → EvX F (.BoolOp .Or (b :: rest) pos) Γ en) : EvX F (.BoolOp .Or (a :: b :: rest) pos) Γ en := fun T0 T σ ok Q hQ =>
  wpE_of (fun p => tOrT (F.X p).K (wpE F a) (wpE F (.BoolOp .Or (b :: rest) pos))) (fun p => pe_orT (pe_wp p) (pe_wp p)) fun p => h T0 T σ ok _ fun v T1 s1 q1 => by
    have q0 := q1
    cases q1 with
    | @lst m vs _ hs ha =>
      refine ⟨!vs.isEmpty, .inl ⟨_, (by rw [F.hK p]; exact (s1.ok.lh l).seq hs), rfl⟩, ?_⟩
      have e := dpa_len ha
      have ev : (!vs.isEmpty) = (!xs.isEmpty) := by cases vs <;> cases xs <;> simp_all
      rw [ev]
      cases k : xs.isEmpty with
      | true =>
        rw [if_neg (by simp)]
        exact h2 k T0 T1 σ (ok.stp s1) Q fun v T2 s2 q2 => hQ v T2 (s1.trans s2) (q2.pre s1)
      | false =>
        rw [if_pos (by simp)]
        refine hQ _ T1 s1 ?_
        rw [h1 k]
        exact q0
/-! ### text's slices -/
theorem evp_slS {a : Expr} {lo hi : Option Expr} {pos p2 : Pos} {l : Bool} {z : Str} {i j : Option Int} (ha : EvP F a Γ l (.str z)) (hz : z.length ≤ sizeLine) (h1 : EvO F lo Γ i) (h2 : EvO F hi Γ j) : EvP F (.Subscript a (.Slice lo hi none p2) pos) Γ true (.str (cutS z i j)) := fun T0 T σ ok Q hQ =>
  wpE_of (fun p => tSl rSlS (wpE F a) (wpO F lo) (wpO F hi)) (fun p => pe_slice sl_str (pe_wp p) (po_wp p) (po_wp p)) fun p => ha T0 T σ ok _ fun x T1 s1 q1 => h1 T0 T1 σ (ok.stp s1) _ fun T2 s2 => h2 T0 T2 σ ((ok.stp s1).stp s2) _ fun T3 s3 => by
    cases q1
    exact ⟨z, rfl, hz, hQ _ T3 (s1.trans (s2.trans s3)) (.str _)⟩

/-! ### tests -/
def TrP (F : Fm) (e : Expr) (Γ : List En) (en : En) : Prop := ∀ c, en.tr = some c → notIfx e = true → TsP F e Γ c ∧ (isBop e = true → TsW F e Γ c)
def Sd (F : Fm) (e : Expr) (Γ : List En) (en : En) : Prop := EvX F e Γ en ∧ TrP F e Γ en
theorem plain_nb {e : Expr} (h : plainT e = true) : isBop e = false := by cases e <;> first | rfl | (simp [plainT] at h)
theorem sd_plain {e : Expr} {en : En} (hp : plainT e = true) (h : EvX F e Γ en) : Sd F e Γ en := by
  refine ⟨h, fun c hc _ => ⟨?_, fun z => ?_⟩⟩
  · cases en with
    | no => simp [En.tr] at hc
    | d b x =>
      cases x with
      | bool k =>
        simp only [En.tr, Option.some.injEq] at hc
        subst hc
        exact ts_val h fun _ _ => isTrue_plain hp _ _
      | list xs =>
        simp only [En.tr, Option.some.injEq] at hc
        subst hc
        exact ts_lst h fun _ _ => isTrue_plain hp _ _
      | _ => simp [En.tr] at hc
    | o b xs =>
      simp only [En.tr, Option.some.injEq] at hc
      subst hc
      exact ts_lst (evx_val h rfl) fun _ _ => isTrue_plain hp _ _
    | w k => simp [En.tr] at hc
  · rw [plain_nb hp] at z; cases z
theorem sd_p {e : Expr} {b : Bool} {d : PyData} (hp : plainT e = true) (h : EvP F e Γ b d) : Sd F e Γ (.d b d) := sd_plain hp h
/-- the value's truth -/
theorem tr_val {en : En} {a : Ar} {c : Bool} (h : en.val = some a) (q : a.2 = .bool c) : en.tr = some c := by
  cases en with
  | no => cases h
  | d b x => cases h; simp only at q; subst q; rfl
  | o b xs => cases h; cases q
  | w k => cases h
theorem tr_valL {en : En} {a : Ar} {xs : List PyData} (h : en.val = some a) (q : a.2 = .list xs) : en.tr = some (!xs.isEmpty) := by
  cases en with
  | no => cases h
  | d b x => cases h; simp only at q; subst q; rfl
  | o b xs => cases h; cases q; rfl
  | w k => cases h
theorem asB_of {d : PyData} {c : Bool} (h : asB d = some c) : d = .bool c := by cases d <;> simp [asB] at h; rw [h]
theorem asI_of {d : PyData} {c : Int} (h : asI d = some c) : d = .int c := by cases d <;> simp [asI] at h; rw [h]
theorem vl_of {x : Option En} {a : Ar} (h : vl x = some a) : ∃ en, x = some en ∧ en.val = some a := Option.bind_eq_some_iff.mp h
end
end T2
end
section
set_option Elab.async false
set_option linter.all false
set_option autoImplicit false
set_option maxRecDepth 100000
namespace T2
open PySem PySem.Spec L2
open PyProof.Rows hiding St
open PySem.W (alike alikeAll dataLt dataLe EachIs)

/-! ### sorted, over data -/
theorem eachD {K : PySem.W.Frag} {H : Hp} : ∀ {vs : List V} {us : List Value} {bs : List PyData}, DpAll K H vs bs → Vals vs us → EachIs (fun u b => ∃ x, RelV x u ∧ Dp K H x b) us bs
  | _, _, [], h, r => by cases h; cases r; exact .nil
  | _, _, b :: bs, h, r => by
    cases h with
    | cons h1 h2 =>
      cases r with
      | cons r1 r2 => exact .cons ⟨_, r1, h1⟩ (eachD h2 r2)
theorem eachD_back {K : PySem.W.Frag} {H : Hp} : ∀ {us : List Value} {bs : List PyData}, EachIs (fun u b => ∃ x, RelV x u ∧ Dp K H x b) us bs → ∃ vs, Vals vs us ∧ DpAll K H vs bs
  | _, _, .nil => ⟨[], .nil, .nil⟩
  | _, _, .cons ⟨x, r, d⟩ t => by
    obtain ⟨vs, h1, h2⟩ := eachD_back t
    exact ⟨x :: vs, .cons r h1, .cons d h2⟩
def rSrtD (K : PySem.W.Frag) : List V → Hp → VK → Prop := fun xs H Q => ∃ (l : Addr) (vs : List V) (ds : List PyData) (Hl : Hp), xs = [.ref l] ∧ srtOk ds = true ∧ SqL K H l vs ∧ Same Hl H ∧ DpAll K Hl vs ds ∧ ∀ p vs', H p = none → DpAll K Hl vs' (srtD ds) → Q (.ref p) (upd H p (.lst vs'))
theorem cr_srtD {X : Cx} (hu : X.A.units + 64 < cLine) : CallR X (.builtin "sorted") (rSrtD X.K) := by
  intro pins s σ H xs us Q I r h
  obtain ⟨l, vs, ds, Hl, rfl, ok, hs, hsm, ha, q⟩ := h
  obtain ⟨u, rfl, rx⟩ := vals1 r
  cases rx
  obtain ⟨its, rv, pl, hz⟩ := I.list hs
  have hbl : ds.length = vs.length := (dpa_len ha).symm
  have haH : DpAll X.K H vs ds := upA ha hsm
  have er : EachIs (fun u b => ∃ as, Reads s.heap u (id b) as) its ds := (eachD haH rv).mono fun u b ⟨x, r1, d1⟩ => Dp.reads I _ x u d1 r1
  simp only [srtOk, Bool.and_eq_true, Bool.or_eq_true, List.all_eq_true, decide_eq_true_eq] at ok
  obtain ⟨⟨o1, o2⟩, o3⟩ := ok
  refine PySem.W.sorted_data (enc := id) pl.isList (eachD ha rv) er (by rw [List.map_id]; exact fun d hd d' hd' => o1 d hd d' hd') ?_ (by rw [hbl]; exact hz) (fun b hb => ?_) fun out ho eo => ?_
  · rw [List.map_id]
    rcases o2 with o2 | o2
    · exact .inl fun d hd => by
        have := o2 d hd
        unfold tupNe at this
        split at this
        · exact ⟨_, _, rfl⟩
        · cases this
    · exact .inr fun d hd => by
        have := o2 d hd
        refine ⟨fun z => ?_, fun xs z => ?_⟩ <;> (subst z; simp [notTN] at this)
  · have := o3 b hb
    show X.A.units + 2 + b.depth < cLine
    omega
  · obtain ⟨vs', rv', ha'⟩ := eachD_back eo
    obtain ⟨c, hc⟩ := sortedAll_at s.heap its out.toArray
    have hf : H (s.heap.objs.size + 1) = none := I.hok.fresh (Nat.le_succ _)
    have hl' : vs'.length = ds.length := by rw [rv'.length]; exact ho
    exact ⟨.ref (s.heap.objs.size + 1), upd H (s.heap.objs.size + 1) (.lst vs'), I.laid (t' := s.toks) (fun b o e => sortedAll_old e) (Nat.le_succ _) ⟨by rw [hl', hbl]; exact hz, out, c, rv', hc⟩, rfl, q _ vs' hf ha'⟩
theorem srtD_len (ds : List PyData) : (srtD ds).length = ds.length := (List.mergeSort_perm ds _).length_eq

section
variable {F : Fm} {S : Sx} {Γ : List En}
theorem bools_of : ∀ {ds : List PyData} {bs : List Bool}, bools ds = some bs → ds = bs.map PyData.bool
  | [], bs, h => by cases h; rfl
  | d :: ds, bs, h => by
    simp only [bools] at h
    obtain ⟨c, h1, h2⟩ := Option.bind_eq_some_iff.mp h
    obtain ⟨cs, h3, rfl⟩ := Option.map_eq_some_iff.mp h2
    rw [asB_of h1, bools_of h3]; rfl
/-- a call of a built-in function: what it gives of arguments -/
def BlR (F : Fm) (id : String) (as : List Ar) (en : En) : Prop := ∃ r : F.I → List V → Hp → VK → Prop, (∀ p, CallR (F.X p) (.builtin id) (r p)) ∧ ∀ p T vs Q, T.Ok → AtA F.K T vs as → (∀ v T', Stp T T' → EnNew F.K T T' v en → Q v T'.H) → r p vs T.H Q
def TyR (F : Fm) (id : String) (as : List Ar) (en : En) : Prop := ∃ r : F.I → List V → Hp → VK → Prop, (∀ p, CallR (F.X p) (.type id) (r p)) ∧ ∀ p T vs Q, T.Ok → AtA F.K T vs as → (∀ v T', Stp T T' → EnNew F.K T T' v en → Q v T'.H) → r p vs T.H Q
theorem evx_blt {x : Str} {id : String} {e : Expr} {es : List Expr} {p pos : Pos} {as : List Ar} {en : En} (hc : BlR F id as en) (ha : EvA F (e :: es) Γ as) (hm : F.mg x = none) (hv : bootBuiltins x = some (.builtin id)) (hg : ∀ p, Gl (F.X p) x) (hn : x ≠ "__name__") (hdb : (x == ("__debug__" : Str)) = false)
    (he : ∀ p, starEach (e :: es) (F.X p).env = (false, eval e (F.X p).env) :: starEach es (F.X p).env) (hpl : ∀ p, (backTo pos (starEach es (F.X p).env)).any (·.1) = false) : EvX F (.Call (.Name x p) (e :: es) [] pos) Γ en := fun T0 T σ ok Q hQ => by
  obtain ⟨r, h1, h2⟩ := hc
  exact wpE_of (fun p => tCB (r p) (wpA F (e :: es))) (fun p => pe_callB (h1 p) (hg p) (by rw [F.hm p]; exact hm) hv (pa_wp p) hn hdb (he p) (hpl p)) fun p => ha T0 T σ ok _ fun vs T1 s1 q1 => h2 p T1 vs Q s1.ok q1 fun v T' s' q' => hQ v T' (s1.trans s') (q'.pre s1)
theorem evx_ty {x : Str} {id : String} {e : Expr} {es : List Expr} {p pos : Pos} {as : List Ar} {en : En} (hc : TyR F id as en) (ha : EvA F (e :: es) Γ as) (hm : F.mg x = none) (hv : bootBuiltins x = some (.type id)) (hg : ∀ p, Gl (F.X p) x) (hn : x ≠ "__name__") (hdb : (x == ("__debug__" : Str)) = false)
    (he : ∀ p, starEach (e :: es) (F.X p).env = (false, eval e (F.X p).env) :: starEach es (F.X p).env) (hpl : ∀ p, (backTo pos (starEach es (F.X p).env)).any (·.1) = false) : EvX F (.Call (.Name x p) (e :: es) [] pos) Γ en := fun T0 T σ ok Q hQ => by
  obtain ⟨r, h1, h2⟩ := hc
  exact wpE_of (fun p => tCB (r p) (wpA F (e :: es))) (fun p => pe_callTy (h1 p) (hg p) (by rw [F.hm p]; exact hm) hv (pa_wp p) hn hdb (he p) (hpl p)) fun p => ha T0 T σ ok _ fun vs T1 s1 q1 => h2 p T1 vs Q s1.ok q1 fun v T' s' q' => hQ v T' (s1.trans s') (q'.pre s1)
theorem bl_len {as : List Ar} {en : En} (h : bltD .len as = some en) : BlR F "len" as en := by
  unfold bltD at h
  split at h <;> try (cases ‹Bl.len = _›)
  · cases h
    refine ⟨_, fun p => call_len_seq, fun p T vs Q o ha q => ?_⟩
    obtain ⟨v, rfl, hv⟩ := ea1 ha
    cases hv with
    | @lst a us _ hs hal =>
      refine ⟨a, us, rfl, .inl (by rw [F.hK]; exact (o.lh _).seq hs), ?_⟩
      rw [dpa_len hal]
      exact q _ T (.refl o) (.int _)
  · cases h
    refine ⟨_, fun p => call_len_seq, fun p T vs Q o ha q => ?_⟩
    obtain ⟨v, rfl, hv⟩ := ea1 ha
    cases hv with
    | @tup a us _ hs hal =>
      refine ⟨a, us, rfl, .inr (by rw [F.hK]; exact sqt_mono (o.lh _) hs), ?_⟩
      rw [dpa_len hal]
      exact q _ T (.refl o) (.int _)
  · simp only [Option.ite_none_right_eq_some, Option.some.injEq] at h
    obtain ⟨hz, rfl⟩ := h
    refine ⟨_, fun p => call_len_str, fun p T vs Q o ha q => ?_⟩
    obtain ⟨v, rfl, hv⟩ := ea1 ha
    cases hv
    exact ⟨_, rfl, hz, q _ T (.refl o) (.int _)⟩
  · cases h
theorem bl_all {as : List Ar} {en : En} (h : bltD .all as = some en) : BlR F "all" as en := by
  unfold bltD at h
  split at h <;> try (cases ‹Bl.all = _›)
  · obtain ⟨bs, h1, rfl⟩ := Option.map_eq_some_iff.mp h
    have e := bools_of h1
    subst e
    refine ⟨_, fun p => cr_all (F.hc p), fun p T vs Q o ha q => ?_⟩
    obtain ⟨v, rfl, hv⟩ := ea1 ha
    cases hv with
    | @lst a us _ hs hal =>
      have e := dpa_bools hal
      subst e
      exact ⟨a, bs, rfl, by rw [F.hK]; exact (o.lh _).seq hs, q _ T (.refl o) (.bl _)⟩
  · cases h
theorem bl_any {as : List Ar} {en : En} (h : bltD .any as = some en) : BlR F "any" as en := by
  unfold bltD at h
  split at h <;> try (cases ‹Bl.any = _›)
  · obtain ⟨bs, h1, rfl⟩ := Option.map_eq_some_iff.mp h
    have e := bools_of h1
    subst e
    refine ⟨_, fun p => cr_any (F.hc p), fun p T vs Q o ha q => ?_⟩
    obtain ⟨v, rfl, hv⟩ := ea1 ha
    cases hv with
    | @lst a us _ hs hal =>
      have e := dpa_bools hal
      subst e
      exact ⟨a, bs, rfl, by rw [F.hK]; exact (o.lh _).seq hs, q _ T (.refl o) (.bl _)⟩
  · cases h
theorem bl_sorted {as : List Ar} {en : En} (h : bltD .sorted as = some en) : BlR F "sorted" as en := by
  unfold bltD at h
  split at h <;> try (cases ‹Bl.sorted = _›)
  · simp only [Option.ite_none_right_eq_some, Option.some.injEq] at h
    obtain ⟨ho, rfl⟩ := h
    rename_i b xs
    refine ⟨_, fun p => cr_srtD (F.un p), fun p T vs Q o ha q => ?_⟩
    obtain ⟨v, rfl, hv⟩ := ea1 ha
    cases hv with
    | @lst a us _ hs hal =>
      rw [F.hK]
      refine ⟨a, us, xs, T.lv b, rfl, ho, (o.lh b).seq hs, o.lh b, hal, fun p vs' n ha' => ?_⟩
      have z := sql_len o hs
      have e1 := dpa_len hal
      obtain ⟨s, e⟩ := new_lst o ha' (by rw [srtD_len]; omega) n
      exact q _ _ s e
  · cases h
theorem bl_max {as : List Ar} {en : En} (h : bltD .max as = some en) : BlR F "max" as en := by
  unfold bltD at h
  split at h <;> try (cases ‹Bl.max = _›)
  · cases h
    refine ⟨_, fun p => call_max2 (F.hc p), fun p T vs Q o ha q => ?_⟩
    obtain ⟨v, u, rfl, hv, hu⟩ := ea2 ha
    cases hv; cases hu
    exact ⟨_, _, rfl, q _ T (.refl o) (.int _)⟩
  · cases h
theorem bl_min {as : List Ar} {en : En} (h : bltD .min as = some en) : BlR F "min" as en := by
  unfold bltD at h
  split at h <;> try (cases ‹Bl.min = _›)
  · cases h
    refine ⟨_, fun p => call_min2 (F.hc p), fun p T vs Q o ha q => ?_⟩
    obtain ⟨v, u, rfl, hv, hu⟩ := ea2 ha
    cases hv; cases hu
    exact ⟨_, _, rfl, q _ T (.refl o) (.int _)⟩
  · cases h
theorem ty_list {as : List Ar} {en : En} (h : bltD .list as = some en) : TyR F "list" as en := by
  unfold bltD at h
  split at h <;> try (cases ‹Bl.list = _›)
  · cases h
    refine ⟨_, fun p => call_list_of, fun p T vs Q o ha q => ?_⟩
    obtain ⟨v, rfl, hv⟩ := ea1 ha
    cases hv with
    | @lst a us _ hs hal =>
      refine ⟨a, us, rfl, .inl (by rw [F.hK]; exact (o.lh _).seq hs), fun l n => ?_⟩
      obtain ⟨s, e⟩ := new_lst o hal (by rw [← dpa_len hal]; exact sql_len o hs) n
      exact q _ _ s e
  · cases h
theorem blt_ok {o : Bl} {e : Expr} {es : List Expr} {p pos : Pos} {as : List Ar} {en : En} {x : Str} (hS : SOk F S) (h : bltD o as = some en) (hx : eqS x o.nm = true) (hg : gloB S.sc x = true) (ha : EvA F (e :: es) Γ as)
    (he : ∀ p, starEach (e :: es) (F.X p).env = (false, eval e (F.X p).env) :: starEach es (F.X p).env) (hpl : ∀ p, (backTo pos (starEach es (F.X p).env)).any (·.1) = false) : EvX F (.Call (.Name x p) (e :: es) [] pos) Γ en := by
  have ex := eqS_of hx
  subst ex
  have hm : F.mg (Str.ofString o.nm) = none := hS.bl _ (by cases o <;> simp [Bl.nm, bltNames])
  have hg := hS.gk hg
  have hn : Str.ofString o.nm ≠ "__name__" := by cases o <;> decide
  have hd : (Str.ofString o.nm == ("__debug__" : Str)) = false := by cases o <;> decide
  cases o with
  | len => exact evx_blt (bl_len h) ha hm PySem.boot_len hg hn hd he hpl
  | all => exact evx_blt (bl_all h) ha hm PyProof.Rows.boot_all hg hn hd he hpl
  | any => exact evx_blt (bl_any h) ha hm PyProof.Rows.boot_any hg hn hd he hpl
  | sorted => exact evx_blt (bl_sorted h) ha hm PyProof.Rows.boot_sorted hg hn hd he hpl
  | list => exact evx_ty (ty_list h) ha hm PyProof.Rows.boot_list hg hn hd he hpl
  | max => exact evx_blt (bl_max h) ha hm PyProof.Rows.boot_max hg hn hd he hpl
  | min => exact evx_blt (bl_min h) ha hm PyProof.Rows.boot_min hg hn hd he hpl
theorem kitB_ok (d : PyData) (t : Tn) : kitB (tyN d) t.nm = some (isiD d t) := by
  cases d <;> cases t <;> (show kitB _ _ = some _) <;> first | (simp only [tyN, Tn.nm, isiD]; decide +kernel)
theorem bl_mem_isi : "isinstance" ∈ bltNames := by simp [bltNames]
theorem bl_mem_tn (t : Tn) : t.nm ∈ bltNames := by cases t <;> simp [Tn.nm, bltNames]
theorem boot_tn (t : Tn) : bootBuiltins (Str.ofString t.nm) = some (.type t.nm) := by
  cases t
  · exact PyProof.Rows.boot_list
  · exact PyProof.Rows.boot_tuple
  · exact PyProof.Rows.boot_str
  · exact PyProof.Rows.boot_int
  · exact PyProof.Rows.boot_bool
end
end T2
end
section
set_option Elab.async false
set_option linter.all false
set_option autoImplicit false
set_option maxRecDepth 100000
namespace T2
open PySem PySem.Spec L2
open PyProof.Rows hiding St
open PySem.W (alike alikeAll dataLt dataLe EachIs)

section
variable {F : Fm} {S : Sx} {Γ : List En}
/-! ### arguments -/
inductive EvEach (F : Fm) (Γ : List En) : List Expr → List Ar → Prop
  | nil : EvEach F Γ [] []
  | cons {x : Expr} {xs : List Expr} {a : Ar} {as : List Ar} : notStar x = true → EvP F x Γ a.1 a.2 → EvEach F Γ xs as → EvEach F Γ (x :: xs) (a :: as)
theorem EvEach.eva : ∀ {xs : List Expr} {as : List Ar}, EvEach F Γ xs as → EvA F xs Γ as
  | _, _, .nil => ea_nil
  | _, _, .cons n h t => ea_cons h t.eva fun _ => star_cons n _ _
theorem EvEach.star : ∀ {xs : List Expr} {as : List Ar}, EvEach F Γ xs as → ∀ (pos : Pos) (env : Env), (backTo pos (starEach xs env)).any (·.1) = false
  | _, _, .nil, _, _ => rfl
  | _, _, .cons n h t, pos, env => by
    rw [star_cons n]
    have := t.star pos env
    simpa [backTo] using this
theorem EvEach.low {b c : Bool} {x y : Expr} {d e : PyData} (h : EvEach F Γ [x, y] [(b, d), (c, e)]) : EvEach F Γ [x, y] [(b && c, d), (b && c, e)] := by
  cases h with
  | cons n1 h1 t =>
    cases t with
    | cons n2 h2 t =>
      cases t
      cases b with
      | true =>
        cases c with
        | true => exact .cons n1 h1 (.cons n2 h2 .nil)
        | false => exact .cons n1 (ev_low h1) (.cons n2 h2 .nil)
      | false => exact .cons n1 h1 (.cons n2 (ev_low h2) .nil)

/-! ### targets -/
theorem tgn_ok {x : Str} {pos : Pos} {i : Nat} {b : Bool} {d : PyData} (hS : SOk F S) (h : chkN S x i = true) : TgP F (.Name x pos) Γ b d [i] (Γ.set i (.d b d)) := by
  simp only [chkN, Bool.and_eq_true, decide_eq_true_eq, Bool.or_eq_true] at h
  refine tg_name i (by rw [hS.n]; exact h.1.1) (hS.loc h.1.2) fun p => ?_
  rcases h.2 with z | z
  · exact .inl (hS.fn p x z)
  · refine .inr ?_
    rw [hS.sc p]; exact isLoc_of z
theorem tgs_ok (hS : SOk F S) {b : Bool} : ∀ {es : List Expr} {is : List Nat} {Γ Γ' : List En} {ds : List PyData}, chkTs S es is = true → tgs is Γ b ds = some Γ' → TgA F es Γ b ds is Γ' ∧ ∀ env, (assignEach es env).length = ds.length ∧ (assignEach es env).findIdx? (·.1) = none
  | [], [], Γ, Γ', [], _, q => by cases q; exact ⟨ga_nil, fun _ => ⟨rfl, rfl⟩⟩
  | [], [], Γ, Γ', _ :: _, _, q => by cases q
  | [], _ :: _, Γ, Γ', _, h, _ => by simp [chkTs] at h
  | _ :: _, [], Γ, Γ', _, h, _ => by simp [chkTs] at h
  | e :: es, i :: is, Γ, Γ', [], _, q => by cases q
  | e :: es, i :: is, Γ, Γ', d :: ds, h, q => by
    unfold chkTs at h
    split at h
    · rename_i x pos
      rw [Bool.and_eq_true] at h
      obtain ⟨h1, h2⟩ := tgs_ok hS (Γ := Γ.set i (.d b d)) h.2 q
      refine ⟨ga_cons (vs := [i]) (tgn_ok hS h.1) h1 fun _ => rfl, fun env => ⟨?_, ?_⟩⟩
      · show (assignEach es env).length + 1 = _
        rw [(h2 env).1]; rfl
      · show ((false, assign (.Name x pos) env) :: assignEach es env).findIdx? (·.1) = none
        rw [List.findIdx?_cons]
        simp [(h2 env).2]
    · cases h
theorem tgt_ok (hS : SOk F S) {e : Expr} {t : CT} {Γ' : List En} {b : Bool} {d : PyData} (h : chkT S e t = true) (q : tgt t Γ b d = some Γ') : TgP F e Γ b d t.slots Γ' := by
  cases t with
  | nm i =>
    unfold chkT at h
    split at h
    · rename_i z
      cases z
      split at h
      · cases q; exact tgn_ok hS h
      · cases h
    · rename_i z; cases z
  | tp is =>
    unfold chkT at h
    split at h
    · rename_i z; cases z
    · rename_i z
      cases z
      split at h
      · cases d with
        | tuple ds =>
          obtain ⟨h1, h2⟩ := tgs_ok hS h q
          exact tg_tup h1 (fun _ => (h2 _).1) fun _ => (h2 _).2
        | _ => cases q
      · cases h
theorem tgt_tup {e : Expr} {t : CT} (h : chkT S e t = true) (q : isTp t = true) : ∃ es k p, e = .Tuple es k p := by
  cases t with
  | nm i => cases q
  | tp is =>
    unfold chkT at h
    split at h
    · rename_i z; cases z
    · split at h
      · exact ⟨_, _, _, rfl⟩
      · cases h
/-! ### what is walked -/
theorem bl_in (x : String) (h : x ∈ bltNames := by simp [bltNames]) : x ∈ bltNames := h
theorem calN_of {e : Expr} {x : Str} {xs : List Expr} (h : calN e = some (x, xs)) : ∃ p q, e = .Call (.Name x p) xs [] q := by
  unfold calN at h
  split at h
  · cases h; exact ⟨_, _, rfl⟩
  · cases h
theorem it_ok (hS : SOk F S) {k : Ik} {f : List Expr → Bool} {it tg : Expr} {as : List Ar} {r : Bool × List PyData} (hc : chkI S k f it = true) (hi : itD k as = some r) (ih : ∀ xs, f xs = true → EvEach F Γ xs as) (ht : k.two = true → ∃ es kk p, tg = .Tuple es kk p) : ItP F tg it Γ r.1 r.2 := by
  cases k with
  | seq =>
    have e := ih [it] hc
    cases e with
    | cons n h t =>
      cases t
      rename_i a
      obtain ⟨b, d⟩ := a
      cases d with
      | list xs => cases hi; exact it_list h
      | tuple xs =>
        simp only [itD, Option.ite_none_right_eq_some, Option.some.injEq] at hi
        obtain ⟨hz, rfl⟩ := hi
        exact it_tup h hz
      | str z =>
        simp only [itD, Option.ite_none_right_eq_some, Option.some.injEq] at hi
        obtain ⟨hz, rfl⟩ := hi
        exact it_str h hz
      | _ => simp [itD] at hi
  | rng =>
    simp only [chkI] at hc
    split at hc
    · rename_i x xs hx
      obtain ⟨p, q, rfl⟩ := calN_of hx
      simp only [Bool.and_eq_true] at hc
      obtain ⟨⟨h1, h2⟩, h3⟩ := hc
      have ex := eqS_of h1
      subst ex
      have e := ih xs h3
      have hg := hS.gk h2
      have hm := hS.bl _ (bl_in "range")
      unfold itD at hi
      split at hi <;> try (cases ‹Ik.rng = _›)
      · simp only [Option.ite_none_right_eq_some, Option.some.injEq] at hi
        obtain ⟨hz, rfl⟩ := hi
        cases e with
        | cons n h t =>
          cases t
          exact it_range1 (EvEach.cons n h .nil).eva hm hz.1 hz.2 hg fun _ => star_cons n _ _
      · simp only [Option.ite_none_right_eq_some, Option.some.injEq] at hi
        obtain ⟨hz, rfl⟩ := hi
        cases e with
        | cons n h t =>
          cases t with
          | cons n2 h2 t =>
            cases t
            refine it_range2 (EvEach.cons n h (.cons n2 h2 .nil)).eva hm hz.1 hz.2.1.1 hz.2.1.2 hz.2.2.1 hz.2.2.2 hg (fun _ => ?_) fun _ => star_cons n2 _ _
            rw [star_cons n, star_cons n2]; rfl
      · simp only [Option.ite_none_right_eq_some, Option.some.injEq] at hi
        obtain ⟨hz, rfl⟩ := hi
        cases e with
        | cons n h t =>
          cases t with
          | cons n2 h2 t =>
            cases t with
            | cons n3 h3' t =>
              cases t
              have hn := Int.toNat_of_nonneg hz.2.2.1
              refine it_range3 (EvEach.cons n h (.cons n2 h2 (.cons n3 h3' .nil))).eva hm ⟨hz.1.1, hz.1.2, hz.2.1, hn.symm⟩ ?_ hg (fun _ => star_cons n _ _) fun _ => (EvEach.cons n2 h2 (.cons n3 h3' .nil)).star _ _
              have := hz.2.2.2
              omega
      · cases hi
    · cases hc
  | enu =>
    obtain ⟨es, kk, tp, rfl⟩ := ht rfl
    simp only [chkI] at hc
    split at hc
    · rename_i x xs hx
      obtain ⟨p, q, rfl⟩ := calN_of hx
      simp only [Bool.and_eq_true] at hc
      obtain ⟨⟨h1, h2⟩, h3⟩ := hc
      have ex := eqS_of h1
      subst ex
      have e := ih xs h3
      have hg := hS.gk h2
      have hm := hS.bl _ (bl_in "enumerate")
      unfold itD at hi
      split at hi <;> try (cases ‹Ik.enu = _›)
      · cases hi
        cases e with
        | cons n h t =>
          cases t
          exact it_enum (EvEach.cons n h .nil).eva hm hg fun _ => star_cons n _ _
      · cases hi
    · cases hc
  | zip =>
    obtain ⟨es, kk, tp, rfl⟩ := ht rfl
    simp only [chkI] at hc
    split at hc
    · rename_i x xs hx
      obtain ⟨p, q, rfl⟩ := calN_of hx
      simp only [Bool.and_eq_true] at hc
      obtain ⟨⟨h1, h2⟩, h3⟩ := hc
      have ex := eqS_of h1
      subst ex
      have e := ih xs h3
      have hg := hS.gk h2
      have hm := hS.bl _ (bl_in "zip")
      unfold itD at hi
      split at hi <;> try (cases ‹Ik.zip = _›)
      · cases hi
        cases e with
        | cons n h t =>
          cases t with
          | cons n2 h2 t =>
            cases t
            exact it_zip (EvEach.cons n h (.cons n2 h2 .nil)).low.eva hm hg (fun _ => star_cons n _ _) fun _ => (EvEach.cons n2 h2 .nil).star _ _
      · cases hi
    · cases hc
/-! ### comprehensions -/
theorem cpr_ok {sc : Scope} {tg elt : Expr} {ifs : List Expr} {bi b : Bool} {ws : List Nat} {f : PyData → Option (Option Ar)}
    (hf : ∀ d r, f d = some r → ∃ vs Γ1, TgP (F.blk sc) tg Γ bi d vs Γ1 ∧ (∀ v ∈ vs, v ∈ ws) ∧ ∃ k, TsF (F.blk sc) ifs Γ1 k ∧ ((k = true ∧ ∃ a, r = some a ∧ EvP (F.blk sc) elt Γ1 a.1 a.2) ∨ (k = false ∧ r = none))) :
    ∀ {ds : List PyData} {rs : List Ar}, cpr f ds = some rs → (b = true → lvs rs = true) → Cp F sc tg ifs elt Γ bi b ws ds (rs.map (·.2))
  | [], rs, h, _ => by cases h; exact .nil
  | d :: ds, rs, h, hb => by
    simp only [cpr] at h
    obtain ⟨r, h1, h2⟩ := Option.bind_eq_some_iff.mp h
    obtain ⟨rs', h3, h4⟩ := Option.map_eq_some_iff.mp h2
    obtain ⟨vs, Γ1, t1, t2, k, t3, t4⟩ := hf d r h1
    rcases t4 with ⟨rfl, a, rfl, t5⟩ | ⟨rfl, rfl⟩
    · simp only at h4
      subst h4
      have hb' : b = true → lv1 a = true ∧ lvs rs' = true := fun z => by
        have := hb z
        simpa only [lvs, List.all_cons, Bool.and_eq_true] using this
      exact .keep t1 t2 t3 (evp_lv t5 fun z => (hb' z).1) (cpr_ok hf h3 fun z => (hb' z).2)
    · simp only at h4
      subst h4
      exact .skip t1 t2 t3 (cpr_ok hf h3 hb)
end
end T2
end
section
set_option Elab.async false
set_option linter.all false
set_option autoImplicit false
set_option maxRecDepth 100000
namespace T2
open PySem PySem.Spec L2
open PyProof.Rows hiding St

section
open Py (enc)
variable {F : Fm} {Γ : List En} {α : Type} [Py α] [PyI α] [DecidableEq α]
theorem evx_sset (k : MK α) {e : Expr} {p p2 pos pos2 : Pos} {b : Bool} {xs : List α} (h : EvP F e Γ b (.list (xs.map enc))) (few : xs.length < 64) (hd : Py.dp α ≤ 60) (hm : F.mg "sorted" = none) (hm2 : F.mg "set" = none) (hg : ∀ p, Gl (F.X p) "sorted") (hg2 : ∀ p, Gl (F.X p) "set") (hn : notStar e = true) :
    EvX F (.Call (.Name "sorted" p) [.Call (.Name "set" p2) [e] [] pos2] [] pos) Γ (.o true ((sset xs).map enc)) := fun T0 T σ ok Q hQ => by
  refine wpE_of (fun p => tCB (rSrtM F.K k F.P F.w) (tCons (tCB (rSetM F.K k F.P F.w) (tCons (wpE F e) tNil)) tNil)) (fun q => ?_) fun q => ?_
  · have c1 := cr_srtM (X := F.X q) k (F.hc q) (F.un q) hd
    have c2 := cr_setM (X := F.X q) k (F.hc q) (F.un q)
    rw [F.hK q, F.hP q, F.hw q] at c1 c2
    exact pe_callB c1 (hg q) (by rw [F.hm q]; exact hm) PyProof.Rows.boot_sorted (pa_cons (pe_callTy c2 (hg2 q) (by rw [F.hm q]; exact hm2) PyProof.Rows.boot_set (pa_cons (pe_wp q) pa_nil (star_cons hn _ _)) (by decide) (by decide) (star_cons hn _ _) rfl) pa_nil)
  · refine h T0 T σ ok _ fun v T1 s1 q1 => ?_
    cases q1 with
    | @lst l vs _ hs ha =>
      refine ⟨l, vs, xs, rfl, (s1.ok.lh b).seq hs, upA ha (s1.ok.lh b), few, fun a L na mem nd mm => ?_⟩
      have s2 := stp_ext (T := T1) s1.ok (φ := fun h => (k.mb F.P F.w).inv h a L) na
      refine ⟨a, L, rfl, upd_same, fun p hp => ?_, fun p' ws np fw dw => ?_⟩
      · obtain ⟨v, r1, d1⟩ := mem p hp
        exact ⟨v, r1, up d1 (same_new na)⟩
      · rw [sset_of nd mm] at dw
        have im : immA ((sset xs).map enc) = true := by
          have : ∀ zs : List α, immA (zs.map enc) = true := fun zs => by
            induction zs with
            | nil => rfl
            | cons z zs ih => rw [List.map_cons, immA, PyI.im, ih]; rfl
          exact this _
        have hz : ws.length ≤ sizeLine := by
          have e1 := congrArg List.length (sset_of nd mm)
          rw [srt_len, List.length_map] at e1
          rw [dpa_len dw, List.length_map, ← e1, sizeLine_eq]; omega
        have s3 := stp_opn s2.ok (xs := ws) np hz
        have dl : DpAll F.K (Hs.lv ⟨T1.F, T1.G, upd T1.H a (.ext fun h => (k.mb F.P F.w).inv h a L)⟩ true) ws ((sset xs).map enc) := upA (dpa_imm s2.ok.tp s2.ok.tz _ _ im dw) (s2.ok.fl true)
        exact hQ (.ref p') _ ((s1.trans s2).trans s3) ⟨p', ws, rfl, (s1.trans s2).h.free np, s2.ok.gn np, upd_same, upA dl (s3.l true)⟩
end
section
variable {K : PySem.W.Frag} {T0 T : Hs} {σ : St} {Γ : List En}
/-- a tree of one's own is a datum from here on -/
theorem EnvOk.closeW {d : PyData} (ok : EnvOk K T0 T σ Γ) (i : Nat) (hΓ : Γ[i]? = some (.w (.tree d))) : ∃ T', T'.H = T.H ∧ Mon T T' ∧ EnvOk K T0 T' σ (Γ.set i (.d true d)) := by
  obtain ⟨Rs, w⟩ := ok.rg
  obtain ⟨⟨v, hv, hP⟩, own⟩ := w.w i _ hΓ
  have hP : Dp K (Rs i) v d := hP
  have o := ok.ok
  let un (G : Hp) : Hp := fun a => match Rs i a with | some u => some u | none => G a
  have un1 : ∀ (G : Hp) a u, Rs i a = some u → un G a = some u := fun G a u e => by show (match Rs i a with | some u => some u | none => G a) = _; rw [e]
  have un0 : ∀ (G : Hp) a, Rs i a = none → un G a = G a := fun G a e => by show (match Rs i a with | some u => some u | none => G a) = _; rw [e]
  have unS : ∀ (G : Hp), Same G T.H → Same G (un G) := fun G s a u e => by
    cases q : Rs i a with
    | none => rw [un0 G a q]; exact e
    | some u' =>
      rw [un1 G a u' q]
      have h1 := own.h a u' q
      rw [s a u e] at h1
      exact h1.symm
  have unH : ∀ (G : Hp), Same G T.H → Same (un G) T.H := fun G s a u e => by
    cases q : Rs i a with
    | none => rw [un0 G a q] at e; exact s a u e
    | some u' => rw [un1 G a u' q] at e; cases e; exact own.h a _ q
  have rS : ∀ (G : Hp), Same (Rs i) (un G) := fun G a u e => un1 G a u e
  have fh : Same T.F T.H := o.fg.trans o.gh
  have tupF : ∀ a u, T.H a = some u → isTupO u = true → T.F a = some u := fun a u e t => by
    cases u with
    | tup xs => exact o.tp a xs e
    | frz ob u =>
      cases u with
      | tup xs => exact o.tz a ob xs e
      | _ => cases t
    | _ => cases t
  have old : ∀ a, T0.H a ≠ none → un T.F a = T.F a ∧ un T.G a = T.G a := fun a n => by
    cases q : Rs i a with
    | none => exact ⟨un0 _ a q, un0 _ a q⟩
    | some u =>
      have t : isTupO u = true := by
        cases t : isTupO u with
        | true => rfl
        | false => exact absurd (own.n a u q t).1 n
      have h1 := tupF a u (own.h a u q) t
      exact ⟨(un1 _ a u q).trans h1.symm, (un1 _ a u q).trans (o.fg a u h1).symm⟩
  have ok' : Hs.Ok ⟨un T.F, un T.G, T.H⟩ := by
    refine ⟨fun a u e => ?_, unH _ o.gh, fun a xs e => ?_, fun a ob xs e => ?_, o.bd⟩
    · have e : un T.F a = some u := e
      show un T.G a = some u
      cases q : Rs i a with
      | none => rw [un0 _ a q] at e ⊢; exact o.fg a u e
      | some u' => rw [un1 _ a u' q] at e ⊢; exact e
    · exact unS _ fh a _ (o.tp a xs e)
    · exact unS _ fh a _ (o.tz a ob xs e)
  have lvS : ∀ c, Same (T.lv c) (Hs.lv ⟨un T.F, un T.G, T.H⟩ c) := fun c => by
    cases c
    · exact unS _ o.gh
    · exact unS _ fh
  have os : ∀ {m : Nat} {k : Wk}, (Γ.set i (En.d true d))[m]? = some (.w k) → m ≠ i ∧ Γ[m]? = some (.w k) := fun q => set_w (e := .d true d) (fun _ z => by cases z) q
  have oo : ∀ {m : Nat} {c : Bool} {zs : List PyData}, (Γ.set i (En.d true d))[m]? = some (.o c zs) → m ≠ i ∧ Γ[m]? = some (.o c zs) := fun q => set_o (e := .d true d) (fun _ _ z => by cases z) q
  refine ⟨⟨un T.F, un T.G, T.H⟩, rfl, ⟨unS _ fh, unS _ o.gh⟩, ⟨ok', ok.st.f.trans (unS _ fh), ok.st.g.trans (unS _ o.gh), ok.st.h, fun a n => (old a n).1.trans (ok.st.nf a n), fun a n => (old a n).2.trans (ok.st.ng a n), ok.st.fz⟩, by rw [List.length_set]; exact ok.len, fun j e q => ?_, fun j k c xs c' ys hjk q q' => ok.ne j k _ _ _ _ hjk (oo q).2 (oo q').2, Rs, fun j k q => ⟨(w.w j k (os q).2).1, (w.w j k (os q).2).2.h, fun a u e t => ⟨((w.w j k (os q).2).2.n a u e t).1, ?_⟩⟩, fun j m k k' hjm q q' => w.ww j m k k' hjm (os q).2 (os q').2, fun j m k c ys l q q' z => w.wo j m k c ys l (os q).2 (oo q').2 z⟩
  · by_cases hj : i = j
    · subst hj
      rw [List.getElem?_set] at q
      split at q
      · split at q
        · cases q
          exact ⟨v, hv, up hP (rS _)⟩
        · cases q
      · exact absurd rfl ‹_›
    · rw [List.getElem?_set_ne hj] at q
      have q' := ok.has j e q
      cases e with
      | no => trivial
      | d c x => obtain ⟨v, z1, z2⟩ := q'; exact ⟨v, z1, up z2 (lvS c)⟩
      | o c ys =>
        obtain ⟨m, us, z1, z2, z3, z4, z5⟩ := q'
        exact ⟨m, us, z1, z2, (un0 _ m (w.wo i j _ c ys m hΓ q z1)).trans z3, z4, upA z5 (lvS c)⟩
      | w k => trivial
  · show un T.G a = none
    rw [un0 _ a (w.ww j i k _ (os q).1 (os q).2 hΓ a u e t)]
    exact ((w.w j k (os q).2).2.n a u e t).2
/-- lent and given back -/
theorem relend {T' T1 : Hs} (oT : T.Ok) (e' : T'.H = T.H) (s1 : Stp T' T1) : ∃ TT, TT.H = T1.H ∧ Stp T TT := by
  have hs : Same T.H T1.H := by rw [← e']; exact s1.h
  have o1 := s1.ok
  let mix (G G1 : Hp) : Hp := fun a => match T.H a with | none => G1 a | some _ => G a
  have mN : ∀ (G G1 : Hp) a, T.H a = none → mix G G1 a = G1 a := fun G G1 a n => by show (match T.H a with | none => G1 a | some _ => G a) = _; rw [n]
  have mS : ∀ (G G1 : Hp) a, T.H a ≠ none → mix G G1 a = G a := fun G G1 a n => by
    show (match T.H a with | none => G1 a | some _ => G a) = _
    cases q : T.H a with
    | none => exact absurd q n
    | some _ => rfl
  have old : ∀ a u, T1.H a = some u → T.H a ≠ none → T.H a = some u := fun a u q n => by
    cases r : T.H a with
    | none => exact absurd r n
    | some u' => rw [hs a u' r] at q; exact q
  refine ⟨⟨mix T.F T1.F, mix T.G T1.G, T1.H⟩, rfl, ⟨fun a u q => ?_, fun a u q => ?_, fun a xs q => ?_, fun a ob xs q => ?_, o1.bd⟩, fun a u q => ?_, fun a u q => ?_, hs, fun a n => mS _ _ a n, fun a n => mS _ _ a n, fun a ob u q => by rw [← e']; exact s1.fz a ob u q⟩
  · have q : mix T.F T1.F a = some u := q
    show mix T.G T1.G a = some u
    by_cases n : T.H a = none
    · rw [mN _ _ a n] at q ⊢; exact o1.fg a u q
    · rw [mS _ _ a n] at q ⊢; exact oT.fg a u q
  · have q : mix T.G T1.G a = some u := q
    by_cases n : T.H a = none
    · rw [mN _ _ a n] at q; exact o1.gh a u q
    · rw [mS _ _ a n] at q; exact hs a u (oT.gh a u q)
  · show mix T.F T1.F a = _
    by_cases n : T.H a = none
    · rw [mN _ _ a n]; exact o1.tp a xs q
    · rw [mS _ _ a n]; exact oT.tp a xs (old a _ q n)
  · show mix T.F T1.F a = _
    by_cases n : T.H a = none
    · rw [mN _ _ a n]; exact o1.tz a ob xs q
    · rw [mS _ _ a n]; exact oT.tz a ob xs (old a _ q n)
  · show mix T.F T1.F a = _
    rw [mS _ _ a (by rw [(oT.fg.trans oT.gh) a u q]; simp)]; exact q
  · show mix T.G T1.G a = _
    rw [mS _ _ a (by rw [oT.gh a u q]; simp)]; exact q
end
section
variable {F : Fm} {Γ Γ' : List En}
/-- what may be read as another Γ' -/
def Lends (F : Fm) (Γ Γ' : List En) : Prop := ∀ T0 T σ, EnvOk F.K T0 T σ Γ → ∃ T', T'.H = T.H ∧ Mon T T' ∧ EnvOk F.K T0 T' σ Γ'
theorem lend_o {i : Nat} {b : Bool} {xs : List PyData} (h : Γ[i]? = some (.o b xs)) : Lends F Γ (Γ.set i (.d b (.list xs))) := fun T0 T σ ok => ok.close i h
theorem lend_w {i : Nat} {d : PyData} (h : Γ[i]? = some (.w (.tree d))) : Lends F Γ (Γ.set i (.d true d)) := fun T0 T σ ok => ok.closeW i h
theorem ev_lend {e : Expr} {c l : Bool} {d : PyData} (hc : Lends F Γ Γ') (h : EvP F e Γ' c d) (im : imm d = true) : EvP F e Γ l d := fun T0 T σ ok Q hQ => by
  obtain ⟨T', e', _, ok'⟩ := hc T0 T σ ok
  have := h T0 T' σ ok' Q fun v T1 s1 q1 => ?_
  · rw [e'] at this; exact this
  · obtain ⟨TT, e1, st⟩ := relend ok.ok e' s1
    rw [← e1]
    exact hQ v TT st (imm_f st.ok (by rw [e1]; exact up q1 (s1.ok.lh c)) im l)
theorem ts_lend {e : Expr} {c : Bool} (hc : Lends F Γ Γ') (h : TsP F e Γ' c) : TsP F e Γ c := fun T0 T σ ok Q hQ => by
  obtain ⟨T', e', _, ok'⟩ := hc T0 T σ ok
  have := h T0 T' σ ok' Q fun T1 s1 => ?_
  · rw [e'] at this; exact this
  · obtain ⟨TT, e1, st⟩ := relend ok.ok e' s1
    rw [← e1]
    exact hQ TT st
theorem ex_lend {sts : List Stmt} {o : Out} (hc : Lends F Γ Γ') (h : ExB F sts Γ' o) : ExB F sts Γ o := fun T0 T σ ok D hD => by
  obtain ⟨T', e, m, ok'⟩ := hc T0 T σ ok
  have := h T0 T' σ ok' D (outok_pre m hD)
  rw [e] at this
  exact this
/-- .. behind a statement -/
theorem es_lend {st : Stmt} {Γ1 : List En} (h : ExS F st Γ (.nx Γ1)) (hc : Lends F Γ1 Γ') : ExS F st Γ (.nx Γ') := fun T0 T σ ok D hD => h T0 T σ ok D fun T1 σ1 ok1 m1 => by
  obtain ⟨T', e, m, ok'⟩ := hc T0 T1 σ1 ok1
  have := hD T' σ1 ok' (m1.trans m)
  rw [e] at this
  exact this

/-! ### a call whose result is of one's own -/
def tupO (H : Hp) : Hp := fun a => match H a with
  | some (.tup xs) => some (.tup xs)
  | some (.frz o (.tup xs)) => some (.frz o (.tup xs))
  | _ => none
theorem tupO_some {H : Hp} {a : Addr} {u : HO} (h : tupO H a = some u) : H a = some u ∧ isTupO u = true := by
  unfold tupO at h
  split at h
  · cases h; exact ⟨‹_›, rfl⟩
  · cases h; exact ⟨‹_›, rfl⟩
  · cases h
theorem tupO_tup {H : Hp} {a : Addr} {xs : List V} (h : H a = some (.tup xs)) : tupO H a = some (.tup xs) := by unfold tupO; rw [h]
theorem tupO_frz {H : Hp} {a : Addr} {ob : Obj} {xs : List V} (h : H a = some (.frz ob (.tup xs))) : tupO H a = some (.frz ob (.tup xs)) := by unfold tupO; rw [h]
theorem tupO_of {H : Hp} {a : Addr} {u : HO} (h : H a = some u) (t : isTupO u = true) : tupO H a = some u := by
  cases u with
  | tup xs => exact tupO_tup h
  | frz ob u =>
    cases u with
    | tup xs => exact tupO_frz h
    | _ => cases t
  | _ => cases t
theorem ata_dem {K : PySem.W.Frag} {T : Hs} (o : T.Ok) : ∀ {vs : List V} {as : List Ar}, AtA K T vs as → AtA K ⟨tupO T.H, T.G, T.H⟩ vs (as.map dem)
  | [], [], _ => trivial
  | v :: vs, a :: as, h => by
    refine ⟨?_, ata_dem o h.2⟩
    show Dp K (Hs.lv ⟨tupO T.H, T.G, T.H⟩ (imm a.2)) v a.2
    cases i : imm a.2 with
    | true => exact dp_imm (fun _ _ e => tupO_tup e) (fun _ _ _ e => tupO_frz e) _ _ i (up h.1 (o.lh a.1))
    | false => exact up h.1 (o.lg a.1)
  | [], _ :: _, h => h.elim
  | _ :: _, [], h => h.elim
/-- what a callee has made, kept apart -/
theorem own_of {K : PySem.W.Frag} {T T' : Hs} {v : V} {d : PyData} (o : T.Ok) (s : Stp ⟨tupO T.H, T.G, T.H⟩ T') (h : Dp K T'.F v d) : ∃ T2, T2.H = T'.H ∧ Stp T T2 ∧ EnNew K T T2 v (.w (.tree d)) := by
  let nu (G G1 : Hp) : Hp := fun a => match T.H a with | none => G1 a | some _ => G a
  have nN : ∀ (G G1 : Hp) a, T.H a = none → nu G G1 a = G1 a := fun G G1 a n => by show (match T.H a with | none => G1 a | some _ => G a) = _; rw [n]
  have nS : ∀ (G G1 : Hp) a, T.H a ≠ none → nu G G1 a = G a := fun G G1 a n => by
    show (match T.H a with | none => G1 a | some _ => G a) = _
    cases q : T.H a with
    | none => exact absurd q n
    | some _ => rfl
  have old : ∀ a u, T'.H a = some u → T.H a ≠ none → T.H a = some u := fun a u q n => by
    cases r : T.H a with
    | none => exact absurd r n
    | some u' =>
      have := s.h a u' r
      rw [q] at this; exact this.symm
  have fh : Same T'.F T'.H := s.ok.fg.trans s.ok.gh
  have hs : Same T.H T'.H := s.h
  have st : Stp T ⟨nu T.F (tupO T'.H), nu T.G (tupO T'.H), T'.H⟩ := by
    refine ⟨⟨fun a u q => ?_, fun a u q => ?_, fun a xs q => ?_, fun a ob xs q => ?_, s.ok.bd⟩, fun a u q => ?_, fun a u q => ?_, hs, fun a n => nS _ _ a n, fun a n => nS _ _ a n, fun a ob u q => s.fz a ob u q⟩
    · have q : nu T.F (tupO T'.H) a = some u := q
      show nu T.G (tupO T'.H) a = some u
      by_cases n : T.H a = none
      · rw [nN _ _ a n] at q ⊢; exact q
      · rw [nS _ _ a n] at q ⊢; exact o.fg a u q
    · have q : nu T.G (tupO T'.H) a = some u := q
      by_cases n : T.H a = none
      · rw [nN _ _ a n] at q; exact (tupO_some q).1
      · rw [nS _ _ a n] at q; exact hs a u (o.gh a u q)
    · show nu T.F (tupO T'.H) a = _
      by_cases n : T.H a = none
      · rw [nN _ _ a n]; exact tupO_tup q
      · rw [nS _ _ a n]; exact o.tp a xs (old a _ q n)
    · show nu T.F (tupO T'.H) a = _
      by_cases n : T.H a = none
      · rw [nN _ _ a n]; exact tupO_frz q
      · rw [nS _ _ a n]; exact o.tz a ob xs (old a _ q n)
    · show nu T.F (tupO T'.H) a = _
      rw [nS _ _ a (by rw [(o.fg.trans o.gh) a u q]; simp)]; exact q
    · show nu T.G (tupO T'.H) a = _
      rw [nS _ _ a (by rw [o.gh a u q]; simp)]; exact q
  refine ⟨⟨nu T.F (tupO T'.H), nu T.G (tupO T'.H), T'.H⟩, rfl, st, T'.F, h, fh, fun a u e t => ?_⟩
  have n : T.H a = none := by
    cases q : T.H a with
    | none => rfl
    | some u' =>
      exfalso
      have h1 : T'.F a = tupO T.H a := s.nf a (by show T.H a ≠ none; rw [q]; simp)
      rw [e] at h1
      have := (tupO_some h1.symm).2
      rw [t] at this; cases this
  refine ⟨n, ?_⟩
  show nu T.G (tupO T'.H) a = none
  rw [nN _ _ a n]
  cases q : tupO T'.H a with
  | none => rfl
  | some u' =>
    exfalso
    have h1 := tupO_some q
    rw [fh a u e] at h1
    have h2 := h1.2
    cases h1.1
    rw [t] at h2; cases h2
theorem evx_new {x : Str} {e : Expr} {es : List Expr} {p pos : Pos} {k : Nat} {R : List Ar → Ar → Prop} {as : List Ar} {d : PyData} (c : FnD F.P F.w F.K F.mg F.base k x R) (ha : EvA F (e :: es) Γ as) (hR : R (as.map dem) (true, d)) (hk : k ≤ F.k)
    (hg : ∀ p, Gl (F.X p) x) (hdb : (x == ("__debug__" : Str)) = false) (he : ∀ p, starEach (e :: es) (F.X p).env = (false, eval e (F.X p).env) :: starEach es (F.X p).env) (hpl : ∀ p, (backTo pos (starEach es (F.X p).env)).any (·.1) = false) :
    EvX F (.Call (.Name x p) (e :: es) [] pos) Γ (.w (.tree d)) := fun T0 T σ ok Q hQ => by
  obtain ⟨f, fd, ps, fo, fm, fk, fb⟩ := c.ex
  refine wpE_of (fun _ => tCall (spD F.K R) [] E0 (wpA F (e :: es))) (fun p => ?_) fun _ => ?_
  · have fo' : FnOk (F.X p).prog (F.X p).w (F.X p).K (F.X p).mg (F.X p).base CX0 k f fd ps (spD F.K R) := by rw [F.hP p, F.hw p, F.hK p, F.hm p, F.hb p]; exact fo
    exact pe_call (ds := []) fo' ((F.hr p).mono hk) (hg p) (by rw [F.hm p]; exact fm) (by rw [F.hK p]; exact fk) (by rw [F.hK p]; exact fb) .nil pass0 (pa_wp p) hdb (he p) (hpl p)
  · refine ha T0 T σ ok _ fun vs T1 s1 q1 => ?_
    have o := s1.ok
    refine ⟨⟨tupO T1.H, T1.G, T1.H⟩, as.map dem, (true, d), rfl, ⟨fun a u q => ?_, o.gh, fun a xs q => tupO_tup q, fun a ob xs q => tupO_frz q, o.bd⟩, hR, ?_, fun v T' s' q' => ?_⟩
    · obtain ⟨h1, h2⟩ := tupO_some q
      show T1.G a = some u
      cases u with
      | tup xs => exact o.fg a _ (o.tp a xs h1)
      | frz ob u =>
        cases u with
        | tup xs => exact o.fg a _ (o.tz a ob xs h1)
        | _ => cases h2
      | _ => cases h2
    · rw [List.append_nil]; exact ata_dem o q1
    · obtain ⟨T2, e2, s2, n2⟩ := own_of o s' q'
      rw [← e2]
      exact hQ v T2 (s1.trans s2) (n2.pre s1)
end
end T2
end
section
set_option Elab.async false
set_option linter.all false
set_option autoImplicit false
set_option maxRecDepth 100000
namespace T2
open PySem PySem.Spec L2
open PyProof.Rows hiding St

theorem bind_of {α β : Type} {x : Option α} {f : α → Option β} {y : β} (h : x.bind f = some y) : ∃ a, x = some a ∧ f a = some y := Option.bind_eq_some_iff.mp h
theorem map_of {α β : Type} {x : Option α} {f : α → β} {y : β} (h : x.map f = some y) : ∃ a, x = some a ∧ f a = y := Option.map_eq_some_iff.mp h
theorem cmp1_of {e x y : Expr} {p : CmpOp} (h : cmp1 e = some (x, p, y)) : ∃ q, e = .Compare x [p] [y] q := by
  unfold cmp1 at h
  split at h
  · cases h; exact ⟨_, rfl⟩
  · cases h
theorem cmp2_of {e x y z : Expr} {p p' : CmpOp} (h : cmp2 e = some (x, p, y, p', z)) : ∃ q, e = .Compare x [p, p'] [y, z] q := by
  unfold cmp2 at h
  split at h
  · cases h; exact ⟨_, rfl⟩
  · cases h
theorem bop1_of {e x : Expr} (h : bop1 e = some x) : ∃ o q, e = .BoolOp o [x] q := by
  unfold bop1 at h
  split at h
  · cases h; exact ⟨_, _, rfl⟩
  · cases h
theorem bopA_of {e x y : Expr} (h : bopC true e = some (x, y)) : ∃ z r q, e = .BoolOp .And (x :: z :: r) q ∧ y = .BoolOp .And (z :: r) q := by
  unfold bopC at h
  split at h
  · simp only [if_true, Option.some.injEq, Prod.mk.injEq] at h
    obtain ⟨rfl, rfl⟩ := h
    exact ⟨_, _, _, rfl, rfl⟩
  · simp at h
  · cases h
theorem bopO_of {e x y : Expr} (h : bopC false e = some (x, y)) : ∃ z r q, e = .BoolOp .Or (x :: z :: r) q ∧ y = .BoolOp .Or (z :: r) q := by
  unfold bopC at h
  split at h
  · simp at h
  · simp only [Bool.false_eq_true, if_false, Option.some.injEq, Prod.mk.injEq] at h
    obtain ⟨rfl, rfl⟩ := h
    exact ⟨_, _, _, rfl, rfl⟩
  · cases h
theorem slcE_of {e x : Expr} {l h : Option Expr} (q : slcE e = some (x, l, h)) : ∃ p p', e = .Subscript x (.Slice l h none p) p' := by
  unfold slcE at q
  split at q
  · cases q; exact ⟨_, _, rfl⟩
  · cases q
theorem isiE_of {e y : Expr} {x z : Str} (q : isiE e = some (x, y, z)) : ∃ p p' p2, e = .Call (.Name x p) [y, .Name z p'] [] p2 := by
  unfold isiE at q
  split at q
  · cases q; exact ⟨_, _, _, rfl⟩
  · cases q
theorem ssE_of {e z : Expr} {x y : Str} (q : ssE e = some (x, y, z)) : ∃ p p' p2 p3, e = .Call (.Name x p) [.Call (.Name y p') [z] [] p2] [] p3 := by
  unfold ssE at q
  split at q
  · cases q; exact ⟨_, _, _, _, rfl⟩
  · cases q
theorem lcE_of {e : Expr} {L : LcE} (q : lcE e = some L) : ∃ p, e = .ListComp L.e [⟨L.tg, L.it, L.f, 0⟩] L.sc p := by
  unfold lcE at q
  split at q
  · split at q
    · rename_i h
      cases q; subst h; exact ⟨_, rfl⟩
    · cases q
  · cases q
section
variable {F : Fm} {S : Sx} {Γ : List En}
theorem lit_ok {c : Const} {d : PyData} {i : Nat} {p : Pos} (h : litB c d = true) : EvP F (.Constant c i p) Γ true d := by
  unfold litB at h
  split at h
  · have := of_decide_eq_true h; subst this; exact ev_int
  · have := of_decide_eq_true h; subst this; exact ev_str
  · have := of_decide_eq_true h; subst this; exact ev_bl
  · exact ev_non
  · cases h
theorem ix_ok {a b : Expr} {p : Pos} {x y : Ar} {i : Int} {en : En} (ha : EvP F a Γ x.1 x.2) (hb : EvP F b Γ y.1 y.2) (hi : asI y.2 = some i) (hs : notSlice b = true) (h : ixD x i = some en) : EvX F (.Subscript a b p) Γ en := by
  obtain ⟨l, d⟩ := x
  obtain ⟨l', d'⟩ := y
  have e := asI_of hi
  simp only at e
  subst e
  simp only [ixD] at h
  cases d with
  | list xs =>
    obtain ⟨d, h1, rfl⟩ := map_of h
    exact evx_d (ev_ixL ha hb h1 (plainIx_of hs))
  | tuple xs =>
    obtain ⟨d, h1, rfl⟩ := map_of h
    exact evx_d (ev_ixT ha hb h1 (plainIx_of hs))
  | str z =>
    simp only [Option.ite_none_right_eq_some] at h
    obtain ⟨hz, h⟩ := h
    obtain ⟨d, h1, rfl⟩ := map_of h
    exact ev_ixS ha hb hz h1 (plainIx_of hs)
  | _ => cases h
theorem ife_ok {c a b : Expr} {p : Pos} {enc en : En} {k : Bool} (hc : Sd F c Γ enc) (hk : enc.tr = some k) (hn : notIfx c = true) (ha : k = true → EvX F a Γ en) (hb : k = false → EvX F b Γ en) : Sd F (.IfExp c a b p) Γ en :=
  ⟨evx_ifx (hc.2 k hk hn).1 ha hb, fun _ _ z => by cases z⟩
theorem and_ok {a : Expr} {z : Expr} {r : List Expr} {p : Pos} {ea : En} {x : Ar} {c : Bool} {y : Option Ar} {en : En} (ha : Sd F a Γ ea) (hv : ea.val = some x) (hn : notIfx a = true) (h : andD x y = some en)
    (hb : ∀ yb, y = some yb → ∃ eb, eb.val = some yb ∧ Sd F (.BoolOp .And (z :: r) p) Γ eb) : Sd F (.BoolOp .And (a :: z :: r) p) Γ en := by
  unfold andD at h
  split at h
  · rename_i k hx
    cases k with
    | true =>
      obtain ⟨yb, h1, h2⟩ := bind_of (show (y.bind fun y => (asB y.2).map fun c => En.d true (.bool c)) = some en from h)
      obtain ⟨c', h3, rfl⟩ := map_of h2
      obtain ⟨eb, v, sb⟩ := hb yb h1
      have e' := asB_of h3
      have va := evx_val ha.1 hv
      rw [hx] at va
      have vb := evx_val sb.1 v
      rw [e'] at vb
      refine ⟨ev_and (c := true) (c' := c') va fun _ => vb, fun k hk _ => ?_⟩
      simp only [En.tr, Option.some.injEq] at hk
      subst hk
      have w : TsW F (.BoolOp .And (a :: z :: r) p) Γ c' := tw_and (c := true) (c' := c') (ha.2 _ (tr_val hv hx) hn).1 fun _ => (sb.2 _ (tr_val v e') rfl).2 rfl
      exact ⟨ts_w w, fun _ => w⟩
    | false =>
      have e0 : En.d true (.bool false) = en := Option.some.inj h
      subst e0
      have va := evx_val ha.1 hv
      rw [hx] at va
      refine ⟨ev_and (c := false) (c' := false) (l' := true) va (fun z => by cases z), fun k hk _ => ?_⟩
      simp only [En.tr, Option.some.injEq] at hk
      subst hk
      have w : TsW F (.BoolOp .And (a :: z :: r) p) Γ false := tw_and (c := false) (c' := false) (ha.2 _ (tr_val hv hx) hn).1 fun z => by cases z
      exact ⟨ts_w w, fun _ => w⟩
  · cases h
theorem or_ok {a : Expr} {z : Expr} {r : List Expr} {p : Pos} {ea : En} {x : Ar} {y : Option En} {en : En} (ha : Sd F a Γ ea) (hv : ea.val = some x) (hn : notIfx a = true) (h : orD x y = some en)
    (hb : ∀ eb, y = some eb → Sd F (.BoolOp .Or (z :: r) p) Γ eb) : Sd F (.BoolOp .Or (a :: z :: r) p) Γ en := by
  unfold orD at h
  split at h
  · rename_i k hx
    cases k with
    | true =>
      have e0 : En.d true (.bool true) = en := Option.some.inj h
      subst e0
      have va := evx_val ha.1 hv
      rw [hx] at va
      refine ⟨ev_or (c := true) (c' := true) (l' := true) va (fun z => by cases z), fun k hk _ => ?_⟩
      simp only [En.tr, Option.some.injEq] at hk
      subst hk
      have w : TsW F (.BoolOp .Or (a :: z :: r) p) Γ true := tw_or (c := true) (c' := true) (ha.2 _ (tr_val hv hx) hn).1 fun z => by cases z
      exact ⟨ts_w w, fun _ => w⟩
    | false =>
      obtain ⟨yb, h1, h2⟩ := bind_of (show ((vl y).bind fun y => (asB y.2).map fun c => En.d true (.bool c)) = some en from h)
      obtain ⟨c', h3, rfl⟩ := map_of h2
      obtain ⟨eb, e1, v⟩ := vl_of h1
      have sb := hb eb e1
      have e' := asB_of h3
      have va := evx_val ha.1 hv
      rw [hx] at va
      have vb := evx_val sb.1 v
      rw [e'] at vb
      refine ⟨ev_or (c := false) (c' := c') va fun _ => vb, fun k hk _ => ?_⟩
      simp only [En.tr, Option.some.injEq] at hk
      subst hk
      have w : TsW F (.BoolOp .Or (a :: z :: r) p) Γ c' := tw_or (c := false) (c' := c') (ha.2 _ (tr_val hv hx) hn).1 fun _ => (sb.2 _ (tr_val v e') rfl).2 rfl
      exact ⟨ts_w w, fun _ => w⟩
  · rename_i xs hx
    have va := evx_val ha.1 hv
    rw [hx] at va
    have ta := (ha.2 _ (tr_valL hv hx) hn).1
    cases he : xs.isEmpty with
    | true =>
      rw [he] at h
      have sb := hb en h
      refine ⟨evx_orL va (fun z => by rw [he] at z; cases z) fun _ => sb.1, fun k hk _ => ?_⟩
      have w : TsW F (.BoolOp .Or (a :: z :: r) p) Γ k := by
        have := tw_or (c := !xs.isEmpty) (c' := k) ta fun _ => (sb.2 _ hk rfl).2 rfl
        rw [he] at this
        simpa using this
      exact ⟨ts_w w, fun _ => w⟩
    | false =>
      rw [he] at h
      have e0 : En.d x.1 (.list xs) = en := Option.some.inj h
      subst e0
      refine ⟨evx_orL va (fun _ => rfl) (fun z => by rw [he] at z; cases z), fun k hk _ => ?_⟩
      simp only [En.tr, Option.some.injEq] at hk
      subst hk
      have w : TsW F (.BoolOp .Or (a :: z :: r) p) Γ (!xs.isEmpty) := by
        have := tw_or (c := !xs.isEmpty) (c' := !xs.isEmpty) (a := a) (b := z) (rest := r) (pos := p) ta fun q => by rw [he] at q; cases q
        simpa using this
      exact ⟨ts_w w, fun _ => w⟩
  · cases h
end
mutual
theorem snd : ∀ (ce : CE) {F : Fm} {S : Sx} {e : Expr} {Γ : List En} {en : En}, SOk F S → chk S ce e = true → ev S.C ce Γ = some en → Sd F e Γ en
  | .var i, F, S, e, Γ, en, hS, h, q => by
    unfold chk at h
    split at h
    · simp only [Bool.and_eq_true, decide_eq_true_eq] at h
      obtain ⟨⟨⟨h1, h2⟩, h3⟩, h4⟩ := h
      unfold ev at q
      split at q
      · rename_i hΓ
        cases q
        exact sd_p rfl (ev_var i hΓ (by rw [hS.n]; exact h1) (hS.vis h2) (neS_of h3) (neS_of h4))
      · cases q
    · cases h
  | .lit d, F, S, e, Γ, en, hS, h, q => by
    unfold chk at h
    split at h
    · unfold ev at q
      cases q
      exact sd_p rfl (lit_ok h)
    · cases h
  | .glb k, F, S, e, Γ, en, hS, h, q => by
    unfold chk at h
    split at h
    · simp only [Bool.and_eq_true] at h
      obtain ⟨⟨h1, h2⟩, h3⟩ := h
      unfold ev at q
      obtain ⟨r, q1, rfl⟩ := map_of q
      rw [q1] at h1
      have e1 := of_decide_eq_true h1
      subst e1
      rcases hS.gl k r q1 with ⟨i, t, e2, e3⟩ | ⟨i, t, e2, e3⟩
      · rw [e2]; exact sd_p rfl (ev_gint e3 (hS.gk h2) (neS_of h3))
      · rw [e2]; exact sd_p rfl (ev_gstr e3 (hS.gk h2) (neS_of h3))
    · cases h
  | .tup es, F, S, e, Γ, en, hS, h, q => by
    unfold chk at h
    split at h
    · unfold ev at q
      obtain ⟨as, q1, q2⟩ := bind_of q
      simp only [Option.ite_none_right_eq_some, Option.some.injEq] at q2
      obtain ⟨hz, rfl⟩ := q2
      exact sd_p rfl (ev_tupX (snds es hS h q1).eva hz)
    · cases h
  | .lst es, F, S, e, Γ, en, hS, h, q => by
    unfold chk at h
    split at h
    · unfold ev at q
      obtain ⟨as, q1, q2⟩ := bind_of q
      simp only [Option.ite_none_right_eq_some, Option.some.injEq] at q2
      obtain ⟨hz, rfl⟩ := q2
      exact sd_plain rfl (ex_n (en_lstX (snds es hS h q1).eva hz))
    · cases h
  | .bin o a b, F, S, e, Γ, en, hS, h, q => by
    unfold chk at h
    split at h
    · simp only [Bool.and_eq_true] at h
      obtain ⟨⟨h1, h2⟩, h3⟩ := h
      have e1 := bop_ok h1
      subst e1
      unfold ev at q
      obtain ⟨x, q1, q⟩ := bind_of q
      obtain ⟨y, q2, q⟩ := bind_of q
      obtain ⟨ea, q3, q4⟩ := vl_of q1
      obtain ⟨eb, q5, q6⟩ := vl_of q2
      exact sd_plain rfl (evx_bin (binD_ok q) (evx_val (snd a hS h2 q3).1 q4) (evx_val (snd b hS h3 q5).1 q6))
    · cases h
  | .cmp o a b, F, S, e, Γ, en, hS, h, q => by
    unfold chk at h
    split at h
    · rename_i hx
      obtain ⟨p, rfl⟩ := cmp1_of hx
      simp only [Bool.and_eq_true] at h
      obtain ⟨⟨⟨h1, h2⟩, h3⟩, h4⟩ := h
      have e1 := cop_ok h1
      subst e1
      unfold ev at q
      obtain ⟨x, q1, q⟩ := bind_of q
      obtain ⟨y, q2, q⟩ := bind_of q
      obtain ⟨c, qc, rfl⟩ := map_of q
      obtain ⟨ea, q3, q4⟩ := vl_of q1
      obtain ⟨eb, q5, q6⟩ := vl_of q2
      have va := evx_val (snd a hS h3 q3).1 q4
      have vb := evx_val (snd b hS h4 q5).1 q6
      refine ⟨evp_cmp (cmpD_ok qc) va vb (mark_of h2), fun k hk _ => ⟨?_, fun z => by cases z⟩⟩
      simp only [En.tr, Option.some.injEq] at hk
      subst hk
      exact ts_cmpX (cmpD_ok qc) va vb (mark_of h2)
    · cases h
  | .chn o o' a b c, F, S, e, Γ, en, hS, h, q => by
    unfold chk at h
    split at h
    · rename_i hx
      obtain ⟨p, rfl⟩ := cmp2_of hx
      simp only [Bool.and_eq_true] at h
      obtain ⟨⟨⟨⟨⟨h1, h2⟩, h3⟩, h4⟩, h5⟩, h6⟩ := h
      have e1 := cop_ok h1
      have e2 := cop_ok h2
      subst e1 e2
      unfold ev at q
      obtain ⟨x, q1, q⟩ := bind_of q
      obtain ⟨y, q2, q⟩ := bind_of q
      obtain ⟨k, qk, q⟩ := bind_of q
      obtain ⟨ea, q3, q4⟩ := vl_of q1
      obtain ⟨eb, q5, q6⟩ := vl_of q2
      have va := evx_val (snd a hS h4 q3).1 q4
      have vb := evx_val (snd b hS h5 q5).1 q6
      cases k with
      | true =>
        simp only [cond_true] at q
        obtain ⟨z, q7, q⟩ := bind_of q
        obtain ⟨k', q8, rfl⟩ := map_of q
        obtain ⟨ec, q9, q10⟩ := vl_of q7
        have vc := evx_val (snd c hS h6 q9).1 q10
        refine ⟨evp_chn (k := true) (cmpD_ok qk) (fun _ => cmpD_ok q8) va vb (fun _ => vc) (marks_of h3), fun k hk _ => ⟨?_, fun z => by cases z⟩⟩
        simp only [En.tr, Option.some.injEq] at hk
        subst hk
        exact ts_chn (k := true) (cmpD_ok qk) (fun _ => cmpD_ok q8) va vb (fun _ => vc) (marks_of h3)
      | false =>
        simp only [cond_false] at q
        cases q
        refine ⟨evp_chn (k := false) (k' := false) (z := (true, .none)) (cmpD_ok qk) (fun z => by cases z) va vb (fun z => by cases z) (marks_of h3), fun k hk _ => ⟨?_, fun z => by cases z⟩⟩
        simp only [En.tr, Option.some.injEq] at hk
        subst hk
        exact ts_chn (k := false) (k' := false) (z := (true, .none)) (cmpD_ok qk) (fun z => by cases z) va vb (fun z => by cases z) (marks_of h3)
    · cases h
  | .one a, F, S, e, Γ, en, hS, h, q => by
    unfold chk at h
    split at h
    · rename_i x1 hx
      obtain ⟨o, p, rfl⟩ := bop1_of hx
      simp only [Bool.and_eq_true] at h
      unfold ev at q
      have sa := snd a hS h.2 q
      refine ⟨evx_one sa.1, fun k hk _ => ?_⟩
      have t := (sa.2 k hk h.1).1
      have w : TsW F (.BoolOp o [x1] p) Γ k := by
        cases o
        · exact tw_and1 t
        · exact tw_or1 t
      exact ⟨ts_w w, fun _ => w⟩
    · cases h
  | .and a b, F, S, e, Γ, en, hS, h, q => by
    unfold chk at h
    split at h
    · rename_i hx
      obtain ⟨z, r, p, rfl, rfl⟩ := bopA_of hx
      simp only [Bool.and_eq_true] at h
      obtain ⟨⟨h1, h2⟩, h3⟩ := h
      unfold ev at q
      obtain ⟨x, q1, q⟩ := bind_of q
      obtain ⟨ea, q3, q4⟩ := vl_of q1
      refine and_ok (c := true) (snd a hS h2 q3) q4 h1 q fun yb hy => ?_
      obtain ⟨eb, q5, q6⟩ := vl_of hy
      exact ⟨eb, q6, snd b hS h3 q5⟩
    · cases h
  | .or a b, F, S, e, Γ, en, hS, h, q => by
    unfold chk at h
    split at h
    · rename_i hx
      obtain ⟨z, r, p, rfl, rfl⟩ := bopO_of hx
      simp only [Bool.and_eq_true] at h
      obtain ⟨⟨h1, h2⟩, h3⟩ := h
      unfold ev at q
      obtain ⟨x, q1, q⟩ := bind_of q
      obtain ⟨ea, q3, q4⟩ := vl_of q1
      exact or_ok (snd a hS h2 q3) q4 h1 q fun eb hy => snd b hS h3 hy
    · cases h
  | .not a, F, S, e, Γ, en, hS, h, q => by
    unfold chk at h
    split at h
    · simp only [Bool.and_eq_true] at h
      unfold ev at q
      obtain ⟨x, q1, q⟩ := bind_of q
      obtain ⟨c, q2, rfl⟩ := map_of q
      obtain ⟨ea, q3, q4⟩ := vl_of q1
      have sa := snd a hS h.2 q3
      have e1 := asB_of q2
      have va := evx_val sa.1 q4
      rw [e1] at va
      refine ⟨ev_not va, fun k hk _ => ⟨?_, fun z => by cases z⟩⟩
      simp only [En.tr, Option.some.injEq] at hk
      subst hk
      exact ts_not (sa.2 _ (tr_val q4 e1) h.1).1
    · cases h
  | .neg a, F, S, e, Γ, en, hS, h, q => by
    unfold chk at h
    split at h
    · unfold ev at q
      obtain ⟨x, q1, q⟩ := bind_of q
      obtain ⟨c, q2, rfl⟩ := map_of q
      obtain ⟨ea, q3, q4⟩ := vl_of q1
      have va := evx_val (snd a hS h q3).1 q4
      rw [asI_of q2] at va
      exact sd_p rfl (evp_neg va)
    · cases h
  | .ife c a b, F, S, e, Γ, en, hS, h, q => by
    unfold chk at h
    split at h
    · simp only [Bool.and_eq_true] at h
      obtain ⟨⟨⟨h1, h2⟩, h3⟩, h4⟩ := h
      unfold ev at q
      obtain ⟨k, q1, q⟩ := bind_of q
      obtain ⟨ec, q2, q3⟩ := bind_of q1
      refine ife_ok (snd c hS h2 q2) q3 h1 (fun z => ?_) fun z => ?_
      · subst z; exact (snd a hS h3 q).1
      · subst z; exact (snd b hS h4 q).1
    · cases h
  | .ix a b, F, S, e, Γ, en, hS, h, q => by
    unfold chk at h
    split at h
    · simp only [Bool.and_eq_true] at h
      obtain ⟨⟨h1, h2⟩, h3⟩ := h
      unfold ev at q
      obtain ⟨x, q1, q⟩ := bind_of q
      obtain ⟨y, q2, q⟩ := bind_of q
      obtain ⟨i, qi, q⟩ := bind_of q
      obtain ⟨ea, q3, q4⟩ := vl_of q1
      obtain ⟨eb, q5, q6⟩ := vl_of q2
      exact sd_plain rfl (ix_ok (evx_val (snd a hS h2 q3).1 q4) (evx_val (snd b hS h3 q5).1 q6) qi h1 q)
    · cases h
  | .sl a lo hi, F, S, e, Γ, en, hS, h, q => by
    unfold chk at h
    split at h
    · rename_i x l u hx
      obtain ⟨p, p', rfl⟩ := slcE_of hx
      simp only [Bool.and_eq_true] at h
      obtain ⟨⟨h1, h2⟩, h3⟩ := h
      unfold ev at q
      obtain ⟨x, q1, q⟩ := bind_of q
      obtain ⟨i, qi, q⟩ := bind_of q
      obtain ⟨j, qj, q⟩ := bind_of q
      obtain ⟨ea, q3, q4⟩ := vl_of q1
      have va := evx_val (snd a hS h1 q3).1 q4
      have part : ∀ (c : CE) (l : Option Expr) (i : Option Int), (match l with | some l => !isNonLit c && chk S c l | none => isNonLit c) = true → slP c (vl (ev S.C c Γ)) = some i → (∀ l en, chk S c l = true → ev S.C c Γ = some en → Sd F l Γ en) → EvO F l Γ i := fun c l i hc hi ih => by
        unfold slP at hi
        cases l with
        | none =>
          simp only at hc
          rw [if_pos hc] at hi
          cases hi
          exact eo_none
        | some l =>
          simp only [Bool.and_eq_true] at hc
          rw [if_neg (by simpa using hc.1)] at hi
          obtain ⟨n, hi1, rfl⟩ := map_of hi
          obtain ⟨y, hy, hi2⟩ := bind_of hi1
          obtain ⟨ey, y1, y2⟩ := vl_of hy
          have vy := evx_val (ih l ey hc.2 y1).1 y2
          rw [asI_of hi2] at vy
          exact eo_some vy
      have o1 := part lo l i h2 qi fun l en hc hq => snd lo hS hc hq
      have o2 := part hi u j h3 qj fun l en hc hq => snd hi hS hc hq
      unfold slD at q
      split at q
      · rename_i e1
        cases q
        rw [e1] at va
        exact sd_plain rfl (evx_o (en_sl va o1 o2))
      · rename_i e1
        simp only [Option.ite_none_right_eq_some, Option.some.injEq] at q
        obtain ⟨hz, rfl⟩ := q
        rw [e1] at va
        exact sd_p rfl (evp_slS va hz o1 o2)
      · cases q
    · cases h
  | .cal k es, F, S, e, Γ, en, hS, h, q => by
    unfold chk at h
    split at h
    · rename_i x xs hx
      obtain ⟨p, p', rfl⟩ := calN_of hx
      simp only [Bool.and_eq_true] at h
      obtain ⟨⟨⟨h1, h2⟩, h3⟩, h4⟩ := h
      unfold ev at q
      obtain ⟨as, q1, q⟩ := bind_of q
      obtain ⟨f, q2, q⟩ := bind_of q
      obtain ⟨r, q3, rfl⟩ := map_of q
      rw [q2] at h1
      have e1 := of_decide_eq_true h1
      subst e1
      obtain ⟨l, hl, fd⟩ := hS.fs k f q2
      have ea := snds es hS h4 q1
      cases ea with
      | nil => exact sd_p rfl (ev_call0 fd q3 hl (hS.gk h2) (neS_of h3))
      | cons n h t =>
        exact sd_p rfl (ev_call fd (EvEach.cons n h t).eva q3 hl (hS.gk h2) (neS_of h3) (fun _ => star_cons n _ _) fun _ => t.star _ _)
    · cases h
  | .blt o es, F, S, e, Γ, en, hS, h, q => by
    unfold chk at h
    split at h
    · rename_i x xs hx
      obtain ⟨p, p', rfl⟩ := calN_of hx
      simp only [Bool.and_eq_true] at h
      obtain ⟨⟨h1, h2⟩, h3⟩ := h
      unfold ev at q
      obtain ⟨as, q1, q⟩ := bind_of q
      have ea := snds es hS h3 q1
      cases ea with
      | nil => cases o <;> simp [bltD] at q
      | cons n h t =>
        exact sd_plain rfl (blt_ok hS q h1 h2 (EvEach.cons n h t).eva (fun _ => star_cons n _ _) fun _ => t.star _ _)
    · cases h
  | .isi a t, F, S, e, Γ, en, hS, h, q => by
    unfold chk at h
    split at h
    · rename_i x y z hx
      obtain ⟨p, p', p2, rfl⟩ := isiE_of hx
      simp only [Bool.and_eq_true] at h
      obtain ⟨⟨⟨⟨⟨h1, h2⟩, h3⟩, h4⟩, h5⟩, h6⟩ := h
      have e1 := eqS_of h1
      have e2 := eqS_of h3
      subst e1 e2
      unfold ev at q
      obtain ⟨x, q1, rfl⟩ := map_of q
      obtain ⟨ea, q3, q4⟩ := vl_of q1
      have va := evx_val (snd a hS h6 q3).1 q4
      exact sd_p rfl (t_isi va (hS.bl _ bl_mem_isi) (hS.bl _ (bl_mem_tn t)) (boot_tn t) (kitB_ok x.2 t) (hS.gk h2) (hS.gk h4) (by cases t <;> decide) (by cases t <;> decide) (fun _ => star_cons h5 _ _) (fun _ => rfl) fun _ => rfl)
    · cases h
  | .lc own k es t elt, F, S, e, Γ, en, hS, h, q => by
    unfold chk at h
    split at h
    · rename_i L hL
      obtain ⟨p, rfl⟩ := lcE_of hL
      simp only [Bool.and_eq_true] at h
      obtain ⟨⟨⟨⟨⟨⟨⟨h1, h2⟩, h3⟩, h4⟩, h5⟩, h6⟩, h7⟩, h8⟩ := h
      unfold ev at q
      obtain ⟨as, q1, q⟩ := bind_of q
      obtain ⟨it, q2, q⟩ := bind_of q
      obtain ⟨rs, q3, rfl⟩ := map_of q
      have hi : ItP F L.tg L.it Γ it.1 it.2 := it_ok hS h4 q2 (fun xs hx => snds es hS hx q1) fun hk => tgt_tup h7 (by
        rw [hk] at h5; simpa using h5)
      have hf : L.f = [] := by simpa using h2
      have hb := hS.blk L.sc
      refine sd_plain rfl (ex_n (en_lc own hi (cpr_ok (b := lvs rs) (fun d r hr => ?_) q3 id) (fun p => by rw [hS.n, hS.sc p]; exact blkOk_by h1) fun _ _ => fold_of h3 _ _))
      obtain ⟨Γ1, r1, r2⟩ := bind_of hr
      obtain ⟨a, r3, rfl⟩ := map_of r2
      obtain ⟨ea, r4, r5⟩ := vl_of r3
      refine ⟨_, Γ1, tgt_ok hb h7 r1, fun v hv => ?_, true, ?_, .inl ⟨rfl, a, rfl, evx_val (snd elt hb h8 r4).1 r5⟩⟩
      · have := List.all_eq_true.mp h6 v hv
        simpa using this
      · rw [hf]; exact tsf_nil
    · cases h
  | .lcf own k es t c elt, F, S, e, Γ, en, hS, h, q => by
    unfold chk at h
    split at h
    · rename_i L hL
      obtain ⟨p, rfl⟩ := lcE_of hL
      simp only [Bool.and_eq_true] at h
      obtain ⟨⟨⟨⟨⟨⟨⟨h1, h3⟩, h4⟩, h5⟩, h6⟩, h7⟩, h2⟩, h8⟩ := h
      unfold ev at q
      obtain ⟨as, q1, q⟩ := bind_of q
      obtain ⟨it, q2, q⟩ := bind_of q
      obtain ⟨rs, q3, rfl⟩ := map_of q
      have hi : ItP F L.tg L.it Γ it.1 it.2 := it_ok hS h4 q2 (fun xs hx => snds es hS hx q1) fun hk => tgt_tup h7 (by
        rw [hk] at h5; simpa using h5)
      have hb := hS.blk L.sc
      split at h2
      · rename_i f hf
        simp only [Bool.and_eq_true] at h2
        refine sd_plain rfl (ex_n (en_lc own hi (cpr_ok (b := lvs rs) (fun d r hr => ?_) q3 id) (fun p => by rw [hS.n, hS.sc p]; exact blkOk_by h1) fun _ _ => fold_of h3 _ _))
        obtain ⟨Γ1, r1, r2⟩ := bind_of hr
        obtain ⟨kk, r6, r2⟩ := bind_of r2
        obtain ⟨ec, r7, r8⟩ := bind_of r6
        refine ⟨_, Γ1, tgt_ok hb h7 r1, fun v hv => ?_, kk, ?_, ?_⟩
        · have := List.all_eq_true.mp h6 v hv
          simpa using this
        · rw [hf]
          exact tsf_one ((snd c hb h2.2 r7).2 kk r8 h2.1).1
        · cases kk with
          | true =>
            obtain ⟨a, r3, rfl⟩ := map_of r2
            obtain ⟨ea, r4, r5⟩ := vl_of r3
            exact .inl ⟨rfl, a, rfl, evx_val (snd elt hb h8 r4).1 r5⟩
          | false => cases r2; exact .inr ⟨rfl, rfl⟩
      · cases h2
    · cases h
  | .pk i a, F, S, e, Γ, en, hS, h, q => by
    unfold chk at h
    rw [Bool.and_eq_true] at h
    have go : ∀ (Γ' : List En), Lends F Γ Γ' → ((vl (ev S.C a Γ')).bind fun y => if imm y.2 then some (.d true y.2) else none) = some en → Sd F e Γ en := fun Γ' hl q => by
      obtain ⟨y, q1, q⟩ := bind_of q
      simp only [Option.ite_none_right_eq_some, Option.some.injEq] at q
      obtain ⟨im, rfl⟩ := q
      obtain ⟨ea, q3, q4⟩ := vl_of q1
      have sa := snd a hS h.2 q3
      have va := evx_val sa.1 q4
      refine ⟨ev_lend hl va im, fun k hk hn => ⟨?_, fun z => by rw [z] at h; simp at h⟩⟩
      have e1 : y.2 = .bool k := by
        obtain ⟨l, d⟩ := y
        cases d <;> simp [En.tr, imm] at hk im
        rw [hk]
      exact ts_lend hl (sa.2 k (tr_val q4 e1) hn).1
    unfold ev at q
    split at q
    · exact go _ (lend_o ‹_›) q
    · exact go _ (lend_w ‹_›) q
    · cases q
  | .new k es, F, S, e, Γ, en, hS, h, q => by
    unfold chk at h
    split at h
    · rename_i x xs hx
      obtain ⟨p, p', rfl⟩ := calN_of hx
      simp only [Bool.and_eq_true] at h
      obtain ⟨⟨⟨⟨h1, h2⟩, h3⟩, h5⟩, h4⟩ := h
      unfold ev at q
      obtain ⟨as, q1, q⟩ := bind_of q
      obtain ⟨f, q2, q⟩ := bind_of q
      obtain ⟨r, q3, q⟩ := bind_of q
      simp only [Option.ite_none_right_eq_some, Option.some.injEq] at q
      obtain ⟨hr, rfl⟩ := q
      rw [q2] at h1
      have e1 := of_decide_eq_true h1
      subst e1
      obtain ⟨l, hl, fd⟩ := hS.fs k f q2
      have ea := snds es hS h4 q1
      have er : r = (true, r.2) := by rw [← hr]
      rw [er] at q3
      cases ea with
      | nil =>
        cases es with
        | nil => simp at h5
        | cons _ _ => simp [chks] at h4
      | cons n h t =>
        refine ⟨evx_new fd (EvEach.cons n h t).eva q3 hl (hS.gk h2) (neS_of h3) (fun _ => star_cons n _ _) fun _ => t.star _ _, fun c hc => by simp [En.tr] at hc⟩
    · cases h
  | .sset a, F, S, e, Γ, en, hS, h, q => by
    unfold chk at h
    split at h
    · rename_i x y z hx
      obtain ⟨p, p', p2, p3, rfl⟩ := ssE_of hx
      simp only [Bool.and_eq_true] at h
      obtain ⟨⟨⟨⟨⟨h1, h2⟩, h3⟩, h4⟩, h5⟩, h6⟩ := h
      have e1 := eqS_of h1
      have e2 := eqS_of h2
      subst e1 e2
      unfold ev at q
      obtain ⟨x, q1, q⟩ := bind_of q
      obtain ⟨ea, q3, q4⟩ := vl_of q1
      have va := evx_val (snd a hS h6 q3).1 q4
      refine sd_plain rfl ?_
      unfold ssetD at q
      split at q
      · rename_i ds hds
        rw [hds] at va
        split at q
        · rename_i zs hz
          simp only [Option.ite_none_right_eq_some, Option.some.injEq] at q
          obtain ⟨few, rfl⟩ := q
          rw [asStrs_of hz] at va
          exact evx_sset mkS va few (by decide) (hS.bl _ (bl_in "sorted")) (hS.bl _ (bl_in "set")) (hS.gk h3) (hS.gk h4) h5
        · split at q
          · rename_i zs hz
            simp only [Option.ite_none_right_eq_some, Option.some.injEq] at q
            obtain ⟨few, rfl⟩ := q
            rw [asKeys_of hz] at va
            exact evx_sset mkK va few (by decide) (hS.bl _ (bl_in "sorted")) (hS.bl _ (bl_in "set")) (hS.gk h3) (hS.gk h4) h5
          · cases q
      · cases q
    · cases h
theorem snds : ∀ (es : List CE) {F : Fm} {S : Sx} {xs : List Expr} {Γ : List En} {as : List Ar}, SOk F S → chks S es xs = true → evs S.C es Γ = some as → EvEach F Γ xs as
  | [], F, S, xs, Γ, as, hS, h, q => by
    unfold chks at h
    unfold evs at q
    cases q
    cases xs with
    | nil => exact .nil
    | cons _ _ => cases h
  | e :: es, F, S, xs, Γ, as, hS, h, q => by
    unfold chks at h
    split at h
    · simp only [Bool.and_eq_true] at h
      obtain ⟨⟨h1, h2⟩, h3⟩ := h
      unfold evs at q
      obtain ⟨a, q1, q⟩ := bind_of q
      obtain ⟨as', q2, rfl⟩ := map_of q
      obtain ⟨ea, q3, q4⟩ := vl_of q1
      exact .cons h1 (evx_val (snd e hS h2 q3).1 q4) (snds es hS h3 q2)
    · cases h
end
end T2
end
section
set_option Elab.async false
set_option linter.all false
set_option autoImplicit false
set_option maxRecDepth 100000
namespace T2
open PySem PySem.Spec L2
open PyProof.Rows hiding St

/-! ### trees of one's own, spoilt -/
/-- the written part has no lists, and no tuples of two or more but of texts -/
def isStrV : Value → Bool
  | .str _ _ => true
  | _ => false
def noSq (K : PySem.W.Frag) : Bool := K.all fun p => match p.2.cls with
  | .type t => !(t == "list") && (!(t == "tuple") || (match p.2.data with | .seq its _ => decide (its.size < 2) || its.toList.all isStrV | _ => true))
  | _ => true
theorem lookup_mem {α β : Type} [BEq α] [LawfulBEq α] {a : α} {b : β} : ∀ {l : List (α × β)}, l.lookup a = some b → ∃ p ∈ l, p.2 = b
  | [], h => by cases h
  | (x, y) :: l, h => by
    rw [List.lookup_cons] at h
    split at h
    · cases h; exact ⟨(x, b), List.mem_cons_self, rfl⟩
    · obtain ⟨p, hp, e⟩ := lookup_mem h
      exact ⟨p, List.mem_cons_of_mem _ hp, e⟩
section
variable {K : PySem.W.Frag} {H : Hp}
theorem sql_rd (nk : noSq K = true) {a : Addr} {xs : List V} (h : SqL K H a xs) : Rd H a (.lst xs) := by
  rcases h with h | ⟨o, its, n, hk, hc, _⟩
  · exact h
  · exfalso
    obtain ⟨p, hp, rfl⟩ := lookup_mem hk
    have := List.all_eq_true.mp nk p hp
    rw [hc] at this
    simp at this
theorem strs_only {xs : List V} : ∀ {its : List Value} {ds : List PyData}, Vals xs its → its.all isStrV = true → DpAll K H xs ds → ds.all isS = true := by
  induction xs with
  | nil => intro its ds r _ h; cases h; rfl
  | cons x xs ih =>
    intro its ds r a h
    cases r with
    | cons r1 r2 =>
      cases h with
      | @cons _ _ d ds h1 h2 =>
        simp only [List.all_cons, Bool.and_eq_true] at a ⊢
        refine ⟨?_, ih r2 a.2 h2⟩
        rename_i u us
        have a1 := a.1
        cases u with
        | str z t =>
          cases x with
          | str z' => cases h1; rfl
          | _ => first | (cases r1; done) | (obtain ⟨_, r1⟩ := r1; cases r1)
        | _ => cases a1
theorem sqt_rd (nk : noSq K = true) {a : Addr} {xs : List V} {ds : List PyData} (h : SqT K H a xs) (ha : DpAll K H xs ds) (hh : hard ds = true) : Rd H a (.tup xs) := by
  rcases h with h | ⟨o, its, n, hk, hc, hd, hz, r⟩
  · exact h
  · exfalso
    obtain ⟨p, hp, rfl⟩ := lookup_mem hk
    have := List.all_eq_true.mp nk p hp
    rw [hc, hd] at this
    have e : xs.length = its.size := by rw [r.length, Array.length_toList]
    have e2 := dpa_len ha
    simp only [hard, Bool.and_eq_true, decide_eq_true_eq, Bool.not_eq_true'] at hh
    simp only [Bool.and_eq_true, Bool.or_eq_true, decide_eq_true_eq] at this
    rcases this.2 with z | z | z
    · simp at z
    · omega
    · have := strs_only r z ha
      rw [hh.2] at this; cases this
theorem rd_inj {a : Addr} {u w : HO} (hu : ∀ o v, u ≠ .frz o v) (hw : ∀ o v, w ≠ .frz o v) (h : Rd H a u) (h' : Rd H a w) : u = w := by
  rcases h with h | ⟨o, h⟩ <;> rcases h' with h' | ⟨o', h'⟩ <;> rw [h] at h' <;> cases h'
  · rfl
  · exact absurd rfl (hu _ _)
  · exact absurd rfl (hw _ _)
  · rfl
theorem conf_no (nk : noSq K = true) {v : V} {d e : PyData} (c : conf d e = true) (h : Dp K H v d) (h' : Dp K H v e) : False := by
  cases h with
  | tup hs ha =>
    have l1 := dpa_len ha
    cases h' with
    | tup hs' ha' =>
      have l2 := dpa_len ha'
      simp only [conf, Bool.and_eq_true, Bool.not_eq_true', decide_eq_false_iff_not] at c
      have := rd_inj (fun _ _ z => by cases z) (fun _ _ z => by cases z) (sqt_rd nk hs ha c.1.1) (sqt_rd nk hs' ha' c.1.2)
      cases this
      omega
    | lst hs' ha' =>
      simp only [conf] at c
      have := rd_inj (fun _ _ z => by cases z) (fun _ _ z => by cases z) (sqt_rd nk hs ha c) (sql_rd nk hs')
      cases this
  | lst hs ha =>
    cases h' with
    | tup hs' ha' =>
      simp only [conf] at c
      have := rd_inj (fun _ _ z => by cases z) (fun _ _ z => by cases z) (sql_rd nk hs) (sqt_rd nk hs' ha' c)
      cases this
    | lst _ _ => simp [conf] at c
  | _ => cases e <;> simp [conf] at c
end

/-- the others as they were, R's lists only grown -/
structure EnvR (K : PySem.W.Frag) (T0 T : Hs) (σ : St) (Γ : List En) (R : Hp) (n : Nat) : Prop where
  ok : EnvOk K T0 T σ Γ
  rs : ∃ Rs, WOk K T0 T σ Γ Rs ∧ ∀ (a : Addr) (us : List V), R a = some (HO.lst us) → ∀ (m : Nat) (k : Wk), Γ[m]? = some (En.w k) → Rs m a = none
  li : ∀ a us, R a = some (.lst us) → T0.H a = none ∧ T.G a = none ∧ (∃ ws, T.H a = some (.lst (us ++ ws)) ∧ ws.length ≤ n) ∧ ∀ (m : Nat) (b : Bool) (xs : List PyData), Γ[m]? = some (En.o b xs) → σ[m]? ≠ some (some (V.ref a))
  tu : ∀ a u, R a = some u → isTupO u = true → T.H a = some u
section
variable {K : PySem.W.Frag} {T0 T T' : Hs} {σ : St} {Γ : List En} {R : Hp} {n : Nat}
theorem EnvR.stp (h : EnvR K T0 T σ Γ R n) (s : Stp T T') : EnvR K T0 T' σ Γ R n := by
  obtain ⟨Rs, w, wn⟩ := h.rs
  refine ⟨h.ok.stp s, ⟨Rs, w.stp s, wn⟩, fun a us e => ?_, fun a u e t => s.h a u (h.tu a u e t)⟩
  obtain ⟨h1, h2, ⟨ws, h3, h4⟩, h5⟩ := h.li a us e
  exact ⟨h1, (s.ng a (by rw [h3]; simp)).trans h2, ⟨ws, s.h _ _ h3, h4⟩, h5⟩
theorem EnvR.grow (h : EnvR K T0 T σ Γ R n) {a : Addr} {us ws : List V} {y : V} (e : R a = some (.lst us)) (hw : T.H a = some (.lst (us ++ ws))) (hn : ws.length ≤ n) (hz : (us ++ ws).length < sizeLine) : EnvR K T0 ⟨T.F, T.G, upd T.H a (.lst ((us ++ ws) ++ [y]))⟩ σ Γ R (n + 1) := by
  obtain ⟨Rs, w, wn⟩ := h.rs
  obtain ⟨h1, h2, _, h5⟩ := h.li a us e
  have ok' := h.ok.hid (ys := (us ++ ws) ++ [y]) h1 h2 hw (by rw [List.length_append]; simp only [List.length_cons, List.length_nil]; omega) h5 ⟨Rs, w, fun i k q => wn a us e i k q⟩
  refine ⟨ok', ⟨Rs, ⟨fun i k q => ⟨(w.w i k q).1, fun b x eb => ?_, (w.w i k q).2.n⟩, w.ww, w.wo⟩, wn⟩, fun b vs eb => ?_, fun b u eb t => ?_⟩
  · show upd T.H a _ b = some x
    rw [upd_ne (ne_of_none eb (wn a us e i k q))]
    exact (w.w i k q).2.h b x eb
  · obtain ⟨g1, g2, ⟨zs, g3, g4⟩, g5⟩ := h.li b vs eb
    refine ⟨g1, g2, ?_, g5⟩
    by_cases hb : b = a
    · subst hb
      rw [e] at eb
      cases eb
      refine ⟨ws ++ [y], ?_, by rw [List.length_append]; simp only [List.length_cons, List.length_nil]; omega⟩
      show upd T.H b _ b = _
      rw [upd_same, List.append_assoc]
    · refine ⟨zs, ?_, by omega⟩
      show upd T.H a _ b = _
      rw [upd_ne hb]; exact g3
  · have hb : b ≠ a := fun z => by
      subst z
      rw [e] at eb; cases eb; cases t
    show upd T.H a _ b = _
    rw [upd_ne hb]
    exact h.tu b u eb t
/-- a name that nothing is known of is stored -/
theorem EnvR.put (h : EnvR K T0 T σ Γ R n) {j : Nat} (u : Option V) (hj : Γ[j]? = some .no) : EnvR K T0 T (σ.set j u) Γ R n := by
  obtain ⟨Rs, w, wn⟩ := h.rs
  have es : Γ.set j .no = Γ := by
    apply List.ext_getElem?
    intro m
    rw [List.getElem?_set]
    split
    · rename_i z
      subst z
      split
      · exact hj.symm
      · rename_i lt
        rw [List.getElem?_eq_none (by omega)] at hj; cases hj
    · rfl
  have o := h.ok.drop (u := u) j
  rw [es] at o
  have w' := w.set (i := j) (u := u) (e := .no) (fun _ z => by cases z) fun _ _ z => by cases z
  rw [es] at w'
  refine ⟨o, ⟨Rs, w', wn⟩, fun a us e => ?_, h.tu⟩
  obtain ⟨h1, h2, h3, h5⟩ := h.li a us e
  refine ⟨h1, h2, h3, fun m b xs q => ?_⟩
  have hm : j ≠ m := fun z => by subst z; rw [hj] at q; cases q
  rw [List.getElem?_set_ne hm]
  exact h5 m b xs q
/-- the beginning -/
theorem EnvR.start {k : Wk} (ok : EnvOk K T0 T σ Γ) {i : Nat} (hΓ : Γ[i]? = some (.w k)) : ∃ v R, σ[i]? = some (some v) ∧ k.P K v R ∧ Own T0 T R ∧ EnvR K T0 T σ (Γ.set i .no) R 0 := by
  obtain ⟨Rs, w⟩ := ok.rg
  obtain ⟨⟨v, hv, hP⟩, own⟩ := w.w i k hΓ
  have os : ∀ {m : Nat} {k : Wk}, (Γ.set i En.no)[m]? = some (.w k) → m ≠ i ∧ Γ[m]? = some (.w k) := fun q => set_w (e := .no) (fun _ z => by cases z) q
  have oo : ∀ {m : Nat} {c : Bool} {zs : List PyData}, (Γ.set i En.no)[m]? = some (.o c zs) → m ≠ i ∧ Γ[m]? = some (.o c zs) := fun q => set_o (e := .no) (fun _ _ z => by cases z) q
  have es : σ.set i (some v) = σ := by
    apply List.ext_getElem?
    intro m
    rw [List.getElem?_set]
    split
    · rename_i z
      subst z
      split
      · exact hv.symm
      · rename_i lt
        rw [List.getElem?_eq_none (by omega)] at hv; cases hv
    · rfl
  have o := ok.drop (u := some v) i
  have w' := w.set (i := i) (u := some v) (e := .no) (fun _ z => by cases z) fun _ _ z => by cases z
  rw [es] at o w'
  refine ⟨v, Rs i, hv, hP, own, o, ⟨Rs, w', fun a us e m k' q => w.ww i m k k' (Ne.symm (os q).1) hΓ (os q).2 a _ e rfl⟩, fun a us e => ⟨(own.n a _ e rfl).1, (own.n a _ e rfl).2, ⟨[], by rw [List.append_nil]; exact own.h a _ e, Nat.le_refl _⟩, fun m b xs q z => ?_⟩, fun a u e t => own.h a u e⟩
  have := w.wo i m k b xs a hΓ (oo q).2 z
  rw [e] at this; cases this
theorem Own.nofrz (h : Own T0 T R) (st : Stp T0 T) {a : Addr} {xs : List V} (r : Rd R a (.lst xs)) : R a = some (.lst xs) := by
  rcases r with r | ⟨o, r⟩
  · exact r
  · exact absurd (h.n a _ r rfl).1 (st.fz a o _ (h.h a _ r))
/-- the end: a list of so many -/
theorem EnvR.fin (h : EnvR K T0 T σ Γ R n) {i : Nat} {l : Addr} {vs : List V} {m : Nat} (hi : Γ[i]? = some .no) (hv : σ[i]? = some (some (.ref l))) (e : R l = some (.lst vs)) (hl : ∃ us, T.H l = some (.lst us) ∧ us.length ≤ m) : EnvOk K T0 T σ (Γ.set i (.w (.ul m))) := by
  obtain ⟨Rs, w, wn⟩ := h.rs
  obtain ⟨us, hu, hm⟩ := hl
  obtain ⟨h1, h2, _, h5⟩ := h.li l vs e
  have es : σ.set i (some (.ref l)) = σ := by
    apply List.ext_getElem?
    intro m
    rw [List.getElem?_set]
    split
    · rename_i z
      subst z
      split
      · exact hv.symm
      · rename_i lt
        rw [List.getElem?_eq_none (by omega)] at hv; cases hv
    · rfl
  have lt : ∀ {j : Nat} {k' : Wk}, (Γ.set i (En.w (.ul m)))[j]? = some (.w k') → j ≠ i → Γ[j]? = some (.w k') := fun q n => by rw [List.getElem?_set_ne (Ne.symm n)] at q; exact q
  have oo : ∀ {j : Nat} {c : Bool} {zs : List PyData}, (Γ.set i (En.w (.ul m)))[j]? = some (.o c zs) → j ≠ i ∧ Γ[j]? = some (.o c zs) := fun q => set_o (e := .w (.ul m)) (fun _ _ z => by cases z) q
  let R1 : Hp := upd (fun _ => none) l (.lst us)
  have r1 : ∀ a o, R1 a = some o → a = l ∧ o = .lst us := fun a o q => by
    by_cases z : a = l
    · subst z
      have q : upd (fun _ => none) a (.lst us) a = some o := q
      rw [upd_same] at q; cases q; exact ⟨rfl, rfl⟩
    · have q : upd (fun _ => none) l (.lst us) a = some o := q
      rw [upd_ne z] at q; cases q
  refine ⟨h.ok.st, by rw [List.length_set]; exact h.ok.len, fun j en q => ?_, fun j k c xs c' ys hjk q q' => h.ok.ne _ _ _ _ _ _ hjk (oo q).2 (oo q').2, fun j => if j = i then R1 else Rs j, fun j k q => ?_, fun j p k k' hjp q q' a o ea t => ?_, fun j p k c ys a q q' z => ?_⟩
  · by_cases hj : i = j
    · subst hj
      rw [List.getElem?_set] at q
      split at q
      · split at q
        · cases q; trivial
        · cases q
      · exact absurd rfl ‹_›
    · rw [List.getElem?_set_ne hj] at q
      exact h.ok.has j en q
  · by_cases hj : j = i
    · subst hj
      rw [if_pos rfl]
      rw [List.getElem?_set] at q
      split at q
      · split at q
        · cases q
          refine ⟨⟨.ref l, hv, l, us, rfl, upd_same, hm⟩, fun a o q => ?_, fun a o q t => ?_⟩
          · obtain ⟨rfl, rfl⟩ := r1 a o q; exact hu
          · obtain ⟨rfl, rfl⟩ := r1 a o q; exact ⟨h1, h2⟩
        · cases q
      · exact absurd rfl ‹_›
    · rw [if_neg hj]
      exact w.w j k (lt q hj)
  · by_cases hj : j = i
    · have hp : p ≠ i := fun z => hjp (hj.trans z.symm)
      simp only [if_pos hj] at ea
      simp only [if_neg hp]
      obtain ⟨rfl, rfl⟩ := r1 a o ea
      exact wn a vs e p k' (lt q' hp)
    · simp only [if_neg hj] at ea
      by_cases hp : p = i
      · simp only [if_pos hp]
        cases z : R1 a with
        | none => rfl
        | some o' =>
          exfalso
          obtain ⟨rfl, rfl⟩ := r1 a o' z
          rw [wn a vs e j k (lt q hj)] at ea; cases ea
      · simp only [if_neg hp]
        exact w.ww j p k k' hjp (lt q hj) (lt q' hp) a o ea t
  · by_cases hj : j = i
    · simp only [if_pos hj]
      cases y : R1 a with
      | none => rfl
      | some o' =>
        exfalso
        obtain ⟨rfl, rfl⟩ := r1 a o' y
        exact h5 p c ys (oo q').2 z
    · simp only [if_neg hj]
      exact w.wo j p k c ys a (lt q hj) (oo q').2 z
end
end T2
end
section
set_option Elab.async false
set_option linter.all false
set_option autoImplicit false
set_option maxRecDepth 100000
namespace T2
open PySem PySem.Spec L2
open PyProof.Rows hiding St

section
variable {F : Fm} {Γ : List En}
theorem few_of {e : Expr} (hn : notStar e = true) (cpos : Pos) (env : Env) : ((backTo cpos (starEach [e] env)).all (fun x => !x.1) && (backToKw cpos (keywordEach [] env)).all (fun x => x.1.isSome) && decide ([e].length + ([] : List Keyword).length + (if ([] : List Keyword).isEmpty then 0 else 1) < 30)) = true := by
  rw [star_cons hn]
  rfl
def plainB : Expr → Bool
  | .Name .. => true
  | .Subscript .. => true
  | _ => false
theorem base_of {o : Expr} (h : plainB o = true) (x : Str) (env : Env) (w : Sem Value) : attributeBase o x env w = w := by
  cases o <;> first | rfl | (cases h; done)
/-- xs.append(e) -/
theorem app_stmt {o e : Expr} {apos cpos pos : Pos} {b : Bool} {d : PyData} {T0 T : Hs} {σ : St} {a : Addr} {xs : List V} {D : Ends} (ok : EnvOk F.K T0 T σ Γ) (ho : ∀ Q : VK, Q (.ref a) T.H → wpE F o σ T.H Q) (hp : plainB o = true) (hl : T.H a = some (.lst xs)) (hz : xs.length < sizeLine) (h : EvP F e Γ b d) (hn : notStar e = true) (hline : (apos.endLine == cpos.line) = true)
    (k : ∀ v T1, Stp T T1 → T1.H a = some (.lst xs) → Dp F.K (T1.lv b) v d → D.nx σ (upd T1.H a (.lst (xs ++ [v])))) : wpS F (.Expr (.Call (.Attribute o "append" apos) [e] [] cpos) pos) D σ T.H :=
  wpS_of (fun p => tDrop (tBM (F.X p).K "list" rAppend (wpE F o) (tCons (wpE F e) tNil))) (fun p => ps_expr (pe_bm PySem.F.plainAttrs_list PySem.F.slot_list_append PySem.F.type_list_append mt_append (pe_wp p) (pa_cons (pe_wp p) pa_nil (star_cons hn _ _)) (base_of hp _ _ _) (few_of hn _ _) hline (star_cons hn _ _) rfl) rfl) fun p =>
    ho _ ⟨.inl ⟨rfl, xs, .of hl⟩, h T0 T σ ok _ fun v T1 s1 q1 => ⟨a, xs, v, rfl, rfl, s1.h _ _ hl, hz, k v T1 s1 (s1.h _ _ hl) q1⟩⟩
theorem rec_name {x : Str} {pos : Pos} {j : Nat} {v : V} {σ : St} {H : Hp} (hv : σ[j]? = some (some v)) (hi : F.N[j]? = some x) (hs : ∀ p, Vis (F.X p).env.scope x) (hd : (x == ("__debug__" : Str)) = false) (hcd : (x == ("__classdict__" : Str)) = false) (Q : VK) (q : Q v H) : wpE F (.Name x pos) σ H Q :=
  wpE_of (fun _ => tVar j) (fun p => pe_var (by rw [F.hN p]; exact hi) (hs p) hd hcd) fun _ => ⟨v, hv, q⟩
theorem rec_ix {o : Expr} {i : Int} {k : Nat} {p1 p2 : Pos} {t : Addr} {xs : List V} {v : V} {σ : St} {H : Hp} (ho : ∀ Q : VK, Q (.ref t) H → wpE F o σ H Q) (hs : SqT F.K H t xs) (hi : atI xs i = some v) (Q : VK) (q : Q v H) : wpE F (.Subscript o (.Constant (.int i) k p1) p2) σ H Q :=
  wpE_of (fun p => tOp (rIxT F.K) (wpE F o) (tC (.int i))) (fun p => pe_ix (by rw [← F.hK p]; exact ix_tup) (pe_wp p) pe_int fun _ _ => rfl) fun _ => ho _ ⟨t, xs, i, v, rfl, rfl, hs, hi, q⟩

def spSt (S : Sx) (x : Str) (it : SpI) : Stmt → Bool
  | .Expr (.Call (.Attribute o at_ ap) [e] [] cp) _ => eqS at_ "append" && (ap.endLine == cp.line) && notStar e && chk S it.2 e && (match it.1, o with
    | none, .Name y _ => decide (y = x)
    | some c, .Subscript (.Name y _) (.Constant (.int c') _ _) _ => decide (y = x) && decide (c' = c)
    | _, _ => false)
  | _ => false
def spSts (S : Sx) (x : Str) : List SpI → List Stmt → Bool
  | [], [] => true
  | it :: its, st :: sts => spSt S x it st && spSts S x its sts
  | _, _ => false
variable {S : Sx}
theorem spl_one (nk : noSq F.K = true) (hS : SOk F S) {x : Str} {j : Nat} {it : SpI} {st : Stmt} {r0 r : PyData} {T0 T : Hs} {σ : St} {R : Hp} {n m : Nat} {v v0 : V} {l : Addr} {vs : List V} {D : Ends} (hc : spSt S x it st = true) (he : spOne S.C Γ r0 m r it = true)
    (hj : F.N[j]? = some x) (hvis : visB S.sc x = true) (hd : (x == ("__debug__" : Str)) = false) (hcd : (x == ("__classdict__" : Str)) = false) (E : EnvR F.K T0 T σ Γ R n) (nf : ∀ a ws, Rd R a (.lst ws) → R a = some (.lst ws)) (hv : σ[j]? = some (some v)) (dv : Dp F.K R v r) (hn : n < m) (hl : R l = some (.lst vs)) (d0 : Dp F.K R v0 r0) (h0 : vs[0]? = some v0)
    (k : ∀ T1, EnvR F.K T0 T1 σ Γ R (n + 1) → Mon T T1 → T1.H l = T.H l → D.nx σ T1.H) : wpS F st D σ T.H := by
  unfold spSt at hc
  split at hc
  · rename_i o at_ ap e cp pos
    simp only [Bool.and_eq_true] at hc
    obtain ⟨⟨⟨⟨c1, c2⟩, c3⟩, c4⟩, c5⟩ := hc
    have ea := eqS_of c1
    subst ea
    simp only [spOne, Bool.and_eq_true] at he
    obtain ⟨he, hv2⟩ := he
    obtain ⟨y, hy⟩ := Option.isSome_iff_exists.mp hv2
    obtain ⟨en, y1, y2⟩ := vl_of hy
    have ev := evx_val (snd it.2 hS c4 y1).1 y2
    have fin : ∀ {a : Addr} {us : List V} {ys : List PyData}, R a = some (.lst us) → DpAll F.K R us ys → ys.length + m < sizeLine → (match ys with | [] => true | y :: _ => conf r0 y) = true → plainB o = true → (∀ Q : VK, Q (.ref a) T.H → wpE F o σ T.H Q) → wpS F (.Expr (.Call (.Attribute o "append" ap) [e] [] cp) pos) D σ T.H := fun {a us ys} ra du hz hcf hpb ho => by
      obtain ⟨_, _, ⟨ws, w1, w2⟩, _⟩ := E.li a us ra
      have lu := dpa_len du
      have hz2 : (us ++ ws).length < sizeLine := by rw [List.length_append]; omega
      refine app_stmt E.ok ho hpb w1 hz2 ev c3 c2 fun u T1 s1 h1 _ => ?_
      have E1 := E.stp s1
      refine k _ (E1.grow ra h1 w2 hz2) ⟨s1.f, s1.g⟩ ?_
      have hal : l ≠ a := fun z => by
        subst z
        rw [hl] at ra
        cases ra
        cases du with
        | nil => cases h0
        | cons q1 q2 =>
          rw [List.getElem?_cons_zero, Option.some.injEq] at h0
          rw [← h0] at d0
          exact conf_no nk hcf d0 q1
      show upd T1.H a _ l = T.H l
      rw [upd_ne hal]
      obtain ⟨_, _, ⟨zs, z1, _⟩, _⟩ := E.li l vs hl
      rw [z1]
      exact s1.h _ _ z1
    cases hp : it.1 with
    | none =>
      rw [hp] at c5 he
      cases o with
      | Name y py =>
        have ey := of_decide_eq_true c5
        subst ey
        cases r with
        | list ys =>
          simp only [tgL, Bool.and_eq_true, decide_eq_true_eq] at he
          cases dv with
          | lst hs ha => exact fin (nf _ _ (sql_rd nk hs)) ha he.1 he.2 rfl (rec_name hv hj (hS.vis hvis) hd hcd)
        | _ => simp [tgL] at he
      | _ => cases c5
    | some c =>
      rw [hp] at c5 he
      cases o with
      | Subscript o1 o2 p2 =>
        cases o1 with
        | Name y py =>
          cases o2 with
          | Constant cc kk pp =>
            cases cc with
            | int c' =>
              simp only [Bool.and_eq_true, decide_eq_true_eq] at c5
              obtain ⟨ey, ec⟩ := c5
              subst ey ec
              cases r with
              | tuple ds =>
                simp only [tgL] at he
                split at he
                · rename_i ys hh
                  split at hh
                  · rename_i hat
                    cases hh
                    simp only [Bool.and_eq_true, decide_eq_true_eq] at he
                    cases dv with
                    | @tup ta txs _ hs ha =>
                      obtain ⟨u, hu, du⟩ := atI_dp ha hat
                      have rtH : SqT F.K T.H ta txs := by
                        rcases hs with (z | ⟨ob, z⟩) | z
                        · exact .inl (.inl (E.tu _ _ z rfl))
                        · exact .inl (.inr ⟨ob, E.tu _ _ z rfl⟩)
                        · exact .inr z
                      cases du with
                      | lst hs2 ha2 => exact fin (nf _ _ (sql_rd nk hs2)) ha2 he.1 he.2 rfl (rec_ix (rec_name hv hj (hS.vis hvis) hd hcd) rtH hu)
                  · cases hh
                · cases he
              | _ => simp [tgL] at he
            | _ => cases c5
          | _ => cases c5
        | _ => cases c5
      | _ => cases c5
  · cases hc
theorem spl_body (nk : noSq F.K = true) (hS : SOk F S) {x : Str} {j : Nat} {r0 r : PyData} {T0 : Hs} {σ : St} {R : Hp} {m : Nat} {v v0 : V} {l : Addr} {vs : List V} {D : Ends}
    (hj : F.N[j]? = some x) (hvis : visB S.sc x = true) (hd : (x == ("__debug__" : Str)) = false) (hcd : (x == ("__classdict__" : Str)) = false) (nf : ∀ a ws, Rd R a (.lst ws) → R a = some (.lst ws)) (hv : σ[j]? = some (some v)) (dv : Dp F.K R v r) (hl : R l = some (.lst vs)) (d0 : Dp F.K R v0 r0) (h0 : vs[0]? = some v0) :
    ∀ {its : List SpI} {sts : List Stmt} {T : Hs} {n : Nat}, spSts S x its sts = true → (∀ it ∈ its, spOne S.C Γ r0 m r it = true) → EnvR F.K T0 T σ Γ R n → n + its.length ≤ m → (∀ T1, EnvR F.K T0 T1 σ Γ R (n + its.length) → Mon T T1 → T1.H l = T.H l → D.nx σ T1.H) → wpB F sts D σ T.H
  | [], [], T, n, _, _, E, _, k => wpB_of (fun _ => tNext) (fun _ => pss_nil) fun _ => k T E (.refl _) rfl
  | [], _ :: _, _, _, h, _, _, _, _ => by cases h
  | _ :: _, [], _, _, h, _, _, _, _ => by cases h
  | it :: its, st :: sts, T, n, h, he, E, hn, k => by
    simp only [spSts, Bool.and_eq_true] at h
    rw [List.length_cons] at hn
    refine wpB_of (fun _ => tSeq (wpS F st) (wpB F sts)) (fun p => pss_cons (ps_wp p) (pss_wp p)) fun _ => ?_
    refine spl_one nk hS h.1 (he it List.mem_cons_self) hj hvis hd hcd E nf hv dv (by omega) hl d0 h0 fun T1 E1 m1 e1 => ?_
    refine spl_body nk hS hj hvis hd hcd nf hv dv hl d0 h0 h.2 (fun i hi => he i (List.mem_cons_of_mem _ hi)) E1 (by omega) fun T2 E2 m2 e2 => k T2 ?_ (m1.trans m2) (e2.trans e1)
    rw [List.length_cons, show n + (its.length + 1) = n + 1 + its.length by omega]
    exact E2
/-- the loop -/
theorem es_spl (nk : noSq F.K = true) (hS : SOk F S) {x y : Str} {i j : Nat} {px py pos : Pos} {its : List SpI} {sts : List Stmt} {rows : List PyData} (hij : i ≠ j) (hi : F.N[i]? = some y) (hyv : visB S.sc y = true) (hyd : (y == ("__debug__" : Str)) = false) (hyc : (y == ("__classdict__" : Str)) = false)
    (hj : chkN S x j = true) (hvis : visB S.sc x = true) (hd : (x == ("__debug__" : Str)) = false) (hcd : (x == ("__classdict__" : Str)) = false) (hΓ : Γ[i]? = some (.w (.tree (.list rows)))) (hjl : j < Γ.length) (hc : spSts S x its sts = true) (he : spAll S.C ((Γ.set i .no).set j .no) its rows = true) :
    ExS F (.For (.Name x px) (.Name y py) sts [] pos) Γ (.nx ((Γ.set j .no).set i (.w (.ul rows.length)))) := fun T0 T σ ok D hD => by
  have hj0 : F.N[j]? = some x := by
    simp only [chkN, Bool.and_eq_true, decide_eq_true_eq] at hj
    rw [hS.n]; exact hj.1.1
  obtain ⟨v, R, hv, hP, own, E0⟩ := EnvR.start ok hΓ
  have hP : Dp F.K R v (.list rows) := hP
  cases hP with
  | @lst l vs _ hs ha =>
    have rl : R l = some (.lst vs) := own.nofrz ok.st (sql_rd nk hs)
    have nf : ∀ a ws, Rd R a (.lst ws) → R a = some (.lst ws) := fun a ws z => own.nofrz ok.st z
    have len := dpa_len ha
    have E1 : EnvR F.K T0 T σ ((Γ.set i .no).set j .no) R 0 := by
      obtain ⟨Rs, w, wn⟩ := E0.rs
      have le : EnvLe (Γ.set i .no) ((Γ.set i .no).set j .no) := by
        have : ∀ (G : List En) (j : Nat), EnvLe G (G.set j .no) := fun G => by
          induction G with
          | nil => exact fun j => .nil
          | cons e G ih =>
            intro j
            cases j with
            | zero => exact .cons .no (.refl _)
            | succ j => exact .cons .rfl (ih j)
        exact this _ j
      have lw : ∀ {m : Nat} {k : Wk}, ((Γ.set i .no).set j .no)[m]? = some (En.w k) → (Γ.set i .no)[m]? = some (En.w k) := fun {m k} q => (le.get m _ q).resolve_left fun z => by cases z
      have lo : ∀ {m : Nat} {b : Bool} {xs : List PyData}, ((Γ.set i .no).set j .no)[m]? = some (En.o b xs) → (Γ.set i .no)[m]? = some (En.o b xs) := fun {m b xs} q => (le.get m _ q).resolve_left fun z => by cases z
      refine ⟨E0.ok.weak le, ⟨Rs, ⟨fun m k q => w.w m k (lw q), fun m p k k' hmp q q' => w.ww m p k k' hmp (lw q) (lw q'), fun m p k b xs a q q' z => w.wo m p k b xs a (lw q) (lo q') z⟩, fun a us e m k q => wn a us e m k (lw q)⟩, fun a us e => ?_, E0.tu⟩
      obtain ⟨h1, h2, h3, h5⟩ := E0.li a us e
      exact ⟨h1, h2, h3, fun m b xs q => h5 m b xs (lo q)⟩
    have hnj : ((Γ.set i .no).set j .no)[j]? = some En.no := by
      rw [List.getElem?_set]
      simp [hjl]
    have hni : ((Γ.set i .no).set j .no)[i]? = some En.no := by
      rw [List.getElem?_set_ne (Ne.symm hij), List.getElem?_set]
      have : i < Γ.length := (List.getElem?_eq_some_iff.mp hΓ).1
      simp [this]
    refine wpS_of (fun p => tFor (iList F.K (wpE F (.Name y py))) (wpG F (.Name x px)) (wpB F sts)) (fun p => ps_for (by rw [F.hx p]; exact PassesOwn.never) (F.hc p) (by rw [← F.hK p]; exact pi_list (pe_wp p)) (pg_wp p) (pss_wp p) (fun _ => rfl)) fun p => ?_
    refine rec_name hv hi (hS.vis hyv) hyd hyc _ ?_
    have hlH : T.H l = some (.lst vs) := own.h l _ rl
    refine ⟨l, rfl, ⟨vs, .of hlH⟩, fun k m σ' H' => k ≤ vs.length ∧ m = vs.length - k ∧ ∃ T1, H' = T1.H ∧ EnvR F.K T0 T1 σ' ((Γ.set i .no).set j .no) R (k * its.length) ∧ Mon T T1 ∧ T1.H l = some (.lst vs) ∧ σ'[i]? = some (some (.ref l)), ⟨vs.length, Nat.zero_le _, by simp, T, rfl, by rw [Nat.zero_mul]; exact E1, .refl _, hlH, hv⟩, fun k m σ' H' hW => ?_⟩
    obtain ⟨hk, rfl, T1, rfl, E, mo, hl1, hv1⟩ := hW
    by_cases hlt : k < vs.length
    · obtain ⟨u, hu⟩ : ∃ u, vs[k]? = some u := ⟨vs[k], List.getElem?_eq_getElem hlt⟩
      obtain ⟨r, hr, dr⟩ := dpa_get' ha hu
      refine .inr ⟨⟨vs, u, .of hl1, hu⟩, fun σ2 H2 => ∃ T2, H2 = T2.H ∧ EnvR F.K T0 T2 σ2 ((Γ.set i .no).set j .no) R ((k + 1) * its.length) ∧ Mon T T2 ∧ T2.H l = some (.lst vs) ∧ σ2[i]? = some (some (.ref l)), fun σ2 H2 ⟨T2, q1, q2, q3, q4, q5⟩ => ⟨vs.length - (k + 1), by omega, by omega, rfl, T2, q1, q2, q3, q4, q5⟩, fun z H2 hy => ?_⟩
      obtain ⟨rfl, fz⟩ := hy
      have ez : z = u := by
        have := fz vs (.of hl1)
        rw [hu] at this
        exact (Option.some.inj this).symm
      subst ez
      have hloc := hj
      simp only [chkN, Bool.and_eq_true, decide_eq_true_eq, Bool.or_eq_true] at hloc
      refine wpG_of (fun _ => gName j) (fun p => pg_name (by rw [F.hN p]; exact F.nd) (by rw [F.hN p]; exact hj0) (hS.loc hloc.1.2 p) ?_) (fun _ => ?_)
      · rcases hloc.2 with q | q
        · exact .inl (hS.fn p x q)
        · refine .inr ?_
          rw [hS.sc p]; exact isLoc_of q
      · obtain ⟨r0, hr0⟩ : ∃ r0, rows[0]? = some r0 := ⟨rows[0]'(by omega), List.getElem?_eq_getElem (by omega)⟩
        obtain ⟨v0, hv0, d0⟩ := dpa_get ha hr0
        have hone : ∀ it ∈ its, spOne S.C ((Γ.set i .no).set j .no) r0 (rows.length * its.length) r it = true := by
          cases rows with
          | nil => cases hr0
          | cons r1 rs =>
            simp only [List.getElem?_cons_zero, Option.some.injEq] at hr0
            subst hr0
            unfold spAll at he
            exact fun it hit => List.all_eq_true.mp (List.all_eq_true.mp he r (List.mem_of_getElem? hr)) it hit
        have ln : σ'.length = Γ.length := by rw [E.ok.len]; simp
        refine spl_body nk hS hj0 hvis hd hcd nf (σ := σ'.set j (some z)) (by rw [List.getElem?_set, if_pos rfl, if_pos (by omega)]) dr rl d0 hv0 hc hone (E.put (some z) hnj) ?_ fun T2 E2 m2 e2 => ⟨T2, rfl, ?_, mo.trans m2, e2.trans hl1, ?_⟩
        · have : (k + 1) * its.length ≤ rows.length * its.length := Nat.mul_le_mul_right _ (by omega)
          rw [Nat.succ_mul] at this
          exact this
        · rw [Nat.succ_mul]; exact E2
        · rw [List.getElem?_set_ne (Ne.symm hij)]; exact hv1
    · have ek : k = vs.length := by omega
      refine .inl ⟨⟨vs, .of hl1, by omega⟩, ?_⟩
      have fin := E.fin (m := rows.length) hni hv1 rl ⟨vs, hl1, by omega⟩
      have eq : ((Γ.set i En.no).set j .no).set i (.w (.ul rows.length)) = (Γ.set j .no).set i (.w (.ul rows.length)) := by
        rw [List.set_comm _ _ hij, List.set_set]
      rw [eq] at fin
      exact hD T1 σ' fin mo
end
end T2
end
section
set_option Elab.async false
set_option linter.all false
set_option autoImplicit false
set_option maxRecDepth 100000
namespace T2
open PySem PySem.Spec L2
open PyProof.Rows hiding St

/-! ### the texts of statements -/
def isStd : Expr → Bool
  | .Starred .. => true
  | _ => false
def swNames (sc : Scope) (line : Nat) : List Expr → List Str := fun ts => ts.filterMap fun
  | .Name id pos => if sc.names.lookup id == some .local && pos.line == line then some id else none
  | _ => none
def swSc (sc : Scope) (ts vs : List Expr) : Option (Option (List Str)) :=
  if (!(ts.length == 2 || ts.length == 3) || vs.length != ts.length || (if sc.kind.isAnnotationScope then .function else sc.kind) != .function) = true then some none
  else if vs.any isStd = true then some none
  else
    if ((swNames sc ((ts.head?.map (·.pos.line)).getD 0) ts).length != ts.length || (swNames sc ((ts.head?.map (·.pos.line)).getD 0) ts).eraseDups.length != (swNames sc ((ts.head?.map (·.pos.line)).getD 0) ts).length) = true then some none
    else if vs.all (foldedForSure 8) = true then some none
    else if vs.all (constantsAlone 8) = true then none
    else some (some (swNames sc ((ts.head?.map (·.pos.line)).getD 0) ts))
theorem swSc_ok {ts vs : List Expr} {k k2 : Nat} {p p2 : Pos} {env : Env} {r : Option (List Str)} (h : swSc env.scope ts vs = some r) : swappedStores [.Tuple ts k p] (.Tuple vs k2 p2) env = pure r := by
  have e : ∃ u : Sem (Option (List Str)), swappedStores [.Tuple ts k p] (.Tuple vs k2 p2) env = (if (!(ts.length == 2 || ts.length == 3) || vs.length != ts.length || (if env.scope.kind.isAnnotationScope then .function else env.scope.kind) != .function) = true then pure none
    else if vs.any isStd = true then pure none
    else if ((swNames env.scope ((ts.head?.map (·.pos.line)).getD 0) ts).length != ts.length || (swNames env.scope ((ts.head?.map (·.pos.line)).getD 0) ts).eraseDups.length != (swNames env.scope ((ts.head?.map (·.pos.line)).getD 0) ts).length) = true then pure none
    else if vs.all (foldedForSure 8) = true then pure none
    else if vs.all (constantsAlone 8) = true then u
    else pure (some (swNames env.scope ((ts.head?.map (·.pos.line)).getD 0) ts))) := ⟨_, rfl⟩
  obtain ⟨u, e⟩ := e
  rw [e]
  unfold swSc at h
  generalize (!(ts.length == 2 || ts.length == 3) || vs.length != ts.length || (if env.scope.kind.isAnnotationScope then ScopeKind.function else env.scope.kind) != .function) = c1 at h ⊢
  generalize ((swNames env.scope ((ts.head?.map (·.pos.line)).getD 0) ts).length != ts.length || (swNames env.scope ((ts.head?.map (·.pos.line)).getD 0) ts).eraseDups.length != (swNames env.scope ((ts.head?.map (·.pos.line)).getD 0) ts).length) = c3 at h ⊢
  cases c1
  · cases c2 : vs.any isStd
    · cases c3
      · cases c4 : vs.all (foldedForSure 8)
        · cases c5 : vs.all (constantsAlone 8)
          · simp only [c2, c4, c5, Bool.false_eq_true, if_false, Option.some.injEq] at h ⊢; rw [h]
          · simp only [c2, c4, c5, Bool.false_eq_true, if_false, if_true] at h; cases h
        · simp only [c2, c4, Bool.false_eq_true, if_false, if_true, Option.some.injEq] at h ⊢; rw [h]
      · simp only [c2, Bool.false_eq_true, if_false, if_true, Option.some.injEq] at h ⊢; rw [h]
    · simp only [c2, Bool.false_eq_true, if_false, if_true, Option.some.injEq] at h ⊢; rw [h]
  · simp only [if_true, Option.some.injEq] at h ⊢; rw [h]
theorem sw_no {e : Expr} (h : notComp e = true) (t : Option Expr) (l : Nat) (env : Env) : swapsWith e t l env = pure false := by
  cases e <;> first | rfl | (cases h; done)
def notTup : Expr → Bool
  | .Tuple .. => false
  | _ => true
/-- whether x = [..] is stored within the block -/
def swlB (sc : Scope) (x : Str) (p : Pos) (e : Expr) : Option Bool := match e with
  | .ListComp _ _ s pos => if sc.kind = .function then some ((sc.names.lookup x == some .local) && (p.line == pos.line) && !(s.names.any fun (n, k) => n == x && (k == .local || k == .cell))) else none
  | _ => none
theorem swl_ok {sc : Scope} {x : Str} {p : Pos} {e : Expr} {b : Bool} {env : Env} {l : Nat} (hs : env.scope = sc) (h : swlB sc x p e = some b) : swapsWith e (some (.Name x p)) l env = pure b := by
  subst hs
  unfold swlB at h
  split at h
  · simp only [Option.ite_none_right_eq_some, Option.some.injEq] at h
    obtain ⟨hk, rfl⟩ := h
    have hb : env.blockKind = .function := by unfold Env.blockKind; rw [hk]; rfl
    unfold swapsWith
    simp only [hb, Env.kindOf, Expr.pos]
    rfl
  · cases h
def isLc : CE → Bool
  | .lc .. => true
  | .lcf .. => true
  | _ => false
section
variable {F : Fm} {S : Sx} {Γ : List En}
structure LcP (F : Fm) (Γ : List En) (e : Expr) (b : Bool) (ys : List PyData) : Prop where
  ex : ∃ (own : List (Str × Nat)) (sc : Scope) (tg iter elt : Expr) (ifs : List Expr) (pos : Pos) (bi : Bool) (ds : List PyData), e = .ListComp elt [⟨tg, iter, ifs, 0⟩] sc pos ∧ ItP F tg iter Γ bi ds ∧ Cp F sc tg ifs elt (wipeE Γ (own.map (·.2))) bi b (own.map (·.2)) ds ys ∧ (∀ p, BlkOk F.N (F.X p).env.scope sc own) ∧ ∀ p x, foldedSetIterable iter (F.X p).env x = pure x
theorem lc_parts {ce : CE} {e : Expr} {en : En} (is : isLc ce = true) (hS : SOk F S) (h : chk S ce e = true) (q : ev S.C ce Γ = some en) : ∃ b ys, en = .o b ys ∧ LcP F Γ e b ys := by
  cases ce with
  | lc own k es t elt =>
    unfold chk at h
    split at h
    · rename_i L hL
      obtain ⟨p, rfl⟩ := lcE_of hL
      simp only [Bool.and_eq_true] at h
      obtain ⟨⟨⟨⟨⟨⟨⟨h1, h2⟩, h3⟩, h4⟩, h5⟩, h6⟩, h7⟩, h8⟩ := h
      unfold ev at q
      obtain ⟨as, q1, q⟩ := bind_of q
      obtain ⟨it, q2, q⟩ := bind_of q
      obtain ⟨rs, q3, rfl⟩ := map_of q
      have hi : ItP F L.tg L.it Γ it.1 it.2 := it_ok hS h4 q2 (fun xs hx => snds es hS hx q1) fun hk => tgt_tup h7 (by
        rw [hk] at h5; simpa using h5)
      have hf : L.f = [] := by simpa using h2
      have hb := hS.blk L.sc
      refine ⟨_, _, rfl, ⟨own, L.sc, L.tg, L.it, L.e, L.f, p, it.1, it.2, rfl, hi, cpr_ok (b := lvs rs) (fun d r hr => ?_) q3 id, fun p => by rw [hS.n, hS.sc p]; exact blkOk_by h1, fun _ _ => fold_of h3 _ _⟩⟩
      obtain ⟨Γ1, r1, r2⟩ := bind_of hr
      obtain ⟨a, r3, rfl⟩ := map_of r2
      obtain ⟨ea, r4, r5⟩ := vl_of r3
      refine ⟨_, Γ1, tgt_ok hb h7 r1, fun v hv => ?_, true, ?_, .inl ⟨rfl, a, rfl, evx_val (snd elt hb h8 r4).1 r5⟩⟩
      · have := List.all_eq_true.mp h6 v hv
        simpa using this
      · rw [hf]; exact tsf_nil
    · cases h
  | lcf own k es t c elt =>
    unfold chk at h
    split at h
    · rename_i L hL
      obtain ⟨p, rfl⟩ := lcE_of hL
      simp only [Bool.and_eq_true] at h
      obtain ⟨⟨⟨⟨⟨⟨⟨h1, h3⟩, h4⟩, h5⟩, h6⟩, h7⟩, h2⟩, h8⟩ := h
      unfold ev at q
      obtain ⟨as, q1, q⟩ := bind_of q
      obtain ⟨it, q2, q⟩ := bind_of q
      obtain ⟨rs, q3, rfl⟩ := map_of q
      have hi : ItP F L.tg L.it Γ it.1 it.2 := it_ok hS h4 q2 (fun xs hx => snds es hS hx q1) fun hk => tgt_tup h7 (by
        rw [hk] at h5; simpa using h5)
      have hb := hS.blk L.sc
      split at h2
      · rename_i f hf
        simp only [Bool.and_eq_true] at h2
        refine ⟨_, _, rfl, ⟨own, L.sc, L.tg, L.it, L.e, L.f, p, it.1, it.2, rfl, hi, cpr_ok (b := lvs rs) (fun d r hr => ?_) q3 id, fun p => by rw [hS.n, hS.sc p]; exact blkOk_by h1, fun _ _ => fold_of h3 _ _⟩⟩
        obtain ⟨Γ1, r1, r2⟩ := bind_of hr
        obtain ⟨kk, r6, r2⟩ := bind_of r2
        obtain ⟨ec, r7, r8⟩ := bind_of r6
        refine ⟨_, Γ1, tgt_ok hb h7 r1, fun v hv => ?_, kk, ?_, ?_⟩
        · have := List.all_eq_true.mp h6 v hv
          simpa using this
        · rw [hf]
          exact tsf_one ((snd c hb h2.2 r7).2 kk r8 h2.1).1
        · cases kk with
          | true =>
            obtain ⟨a, r3, rfl⟩ := map_of r2
            obtain ⟨ea, r4, r5⟩ := vl_of r3
            exact .inl ⟨rfl, a, rfl, evx_val (snd elt hb h8 r4).1 r5⟩
          | false => cases r2; exact .inr ⟨rfl, rfl⟩
      · cases h2
    · cases h
  | _ => cases is
theorem chkN_fn {x : Str} {i : Nat} (hS : SOk F S) (h : chkN S x i = true) : F.N[i]? = some x ∧ (∀ p, Loc (F.X p).env.scope x) ∧ ∀ p, (F.X p).fn x = true ∨ (F.X p).env.scope.names.lookup x = some .local := by
  simp only [chkN, Bool.and_eq_true, decide_eq_true_eq, Bool.or_eq_true] at h
  refine ⟨by rw [hS.n]; exact h.1.1, hS.loc h.1.2, fun p => ?_⟩
  rcases h.2 with z | z
  · exact .inl (hS.fn p x z)
  · refine .inr ?_
    rw [hS.sc p]; exact isLoc_of z
/-- x = e -/
theorem es_asg {x : Str} {e : Expr} {pos pos' : Pos} {i : Nat} {en : En} (hS : SOk F S) (hn : chkN S x i = true) (h : EvX F e Γ en) (hs : ∀ p, swapsWith e (some (.Name x pos')) pos.line (F.X p).env = pure false) : ExS F (.Assign [.Name x pos'] e pos) Γ (.nx (Γ.set i en)) := by
  obtain ⟨h1, h2, h3⟩ := chkN_fn hS hn
  exact fun T0 T σ ok D hD => wpS_of (fun _ => tAsg (wpE F e) (gName i)) (fun p => ps_set (by rw [F.hN p]; exact F.nd) (by rw [F.hN p]; exact h1) (h2 p) (pe_wp p) (hs p) (h3 p)) fun _ => h T0 T σ ok _ fun v T1 s1 q1 => hD T1 _ (ok.newX s1 q1 i) s1.mon
/-- a stored name, as a datum or as one's own -/
theorem evx_enOf {e : Expr} {own : Bool} {en en' : En} (h : EvX F e Γ en) (q : enOf own en = some en') : EvX F e Γ en' := by
  unfold enOf at q
  split at q
  · cases q; exact h
  · cases q; exact h
  · cases q
  · obtain ⟨a, h1, rfl⟩ := map_of q
    exact evx_val h h1
theorem asg_ok {x : Str} {e : Expr} {pos pos' : Pos} {i : Nat} {ce : CE} {own : Bool} {en en' : En} (hS : SOk F S) (hn : chkN S x i = true) (hc : chk S ce e = true) (hv : ev S.C ce Γ = some en) (ho : enOf own en = some en') (hw : (notComp e || (swlB S.sc x pos' e == some false) || (isLc ce && (swlB S.sc x pos' e == some true) && isLoc S.sc x)) = true) :
    ExS F (.Assign [.Name x pos'] e pos) Γ (.nx (Γ.set i en')) := by
  have sx := (snd ce hS hc hv).1
  simp only [Bool.or_eq_true, Bool.and_eq_true] at hw
  rcases hw with (hw | hw) | ⟨⟨w1, w2⟩, w3⟩
  · exact es_asg hS hn (evx_enOf sx ho) fun p => sw_no hw _ _ _
  · exact es_asg hS hn (evx_enOf sx ho) fun p => swl_ok (hS.sc p) (by simpa using hw)
  · obtain ⟨b, ys, rfl, ⟨own', sc, tg, iter, elt, ifs, ppos, bi, ds, rfl, l1, l2, l3, l4⟩⟩ := lc_parts w1 hS hc hv
    obtain ⟨h1, h2, h3⟩ := chkN_fn hS hn
    have base : ExS F (.Assign [.Name x pos'] (.ListComp elt [⟨tg, iter, ifs, 0⟩] sc ppos) pos) Γ (.nx (Γ.set i (.o b ys))) := es_setLc i own' l1 l2 l3 h1 (fun p => by rw [hS.sc p]; exact isLoc_of w3) (fun p => swl_ok (hS.sc p) (by simpa using w2)) l4
    cases own with
    | true =>
      have e0 : En.o b ys = en' := Option.some.inj ho
      subst e0
      exact base
    | false =>
      have e0 : En.d b (.list ys) = en' := Option.some.inj ho
      subst e0
      by_cases hi : i < Γ.length
      · have := es_lend base (lend_o (F := F) (Γ := Γ.set i (.o b ys)) (i := i) (b := b) (xs := ys) (by rw [List.getElem?_set]; simp [hi]))
        rw [List.set_set] at this
        exact this
      · have e1 : ∀ en : En, Γ.set i en = Γ := fun en => List.set_eq_of_length_le (by omega)
        rw [e1] at base ⊢
        exact base
/-- three names, by a tuple -/
theorem es_par3G {x y z : Str} {a b c : Expr} {px py pz pt pos pt2 : Pos} {kt k2 : Nat} {e1 e2 e3 : En} (i j l : Nat) (ha : EvX F a Γ e1) (hb : EvX F b Γ e2) (hc : EvX F c Γ e3) (hi : F.N[i]? = some x) (hj : F.N[j]? = some y) (hl : F.N[l]? = some z)
    (hx : ∀ p, Loc (F.X p).env.scope x) (hy : ∀ p, Loc (F.X p).env.scope y) (hz : ∀ p, Loc (F.X p).env.scope z)
    (hfx : ∀ p, (F.X p).fn x = true ∨ (F.X p).env.scope.names.lookup x = some .local) (hfy : ∀ p, (F.X p).fn y = true ∨ (F.X p).env.scope.names.lookup y = some .local) (hfz : ∀ p, (F.X p).fn z = true ∨ (F.X p).env.scope.names.lookup z = some .local)
    (n1 : notStar a = true) (n2 : notStar b = true) (n3 : notStar c = true) (hw : ∀ p, swappedStores [.Tuple [.Name x px, .Name y py, .Name z pz] kt pt] (.Tuple [a, b, c] k2 pt2) (F.X p).env = pure none) :
    ExS F (.Assign [.Tuple [.Name x px, .Name y py, .Name z pz] kt pt] (.Tuple [a, b, c] k2 pt2) pos) Γ (.nx (((Γ.set i e1).set j e2).set l e3)) := fun T0 T σ ok D hD =>
  wpS_of (fun p => tAsg (tTup (tCons (wpE F a) (tCons (wpE F b) (tCons (wpE F c) tNil)))) (gTup (F.X p).K 3 (gCons (gName i) (gCons (gName j) (gCons (gName l) gNil)))))
    (fun p => ps_asg (pe_tup (pa_cons (pe_wp p) (pa_cons (pe_wp p) (pa_cons (pe_wp p) pa_nil (star_cons n3 _ _)) (star_cons n2 _ _)) (star_cons n1 _ _))) (pg_tup (F.hc p) (pgs_cons (pg_name (by rw [F.hN p]; exact F.nd) (by rw [F.hN p]; exact hi) (hx p) (hfx p)) (pgs_cons (pg_name (by rw [F.hN p]; exact F.nd) (by rw [F.hN p]; exact hj) (hy p) (hfy p)) (pgs_cons (pg_name (by rw [F.hN p]; exact F.nd) (by rw [F.hN p]; exact hl) (hz p) (hfz p)) pgs_nil rfl) rfl) rfl) rfl rfl) rfl (hw p) rfl) fun p =>
    ha T0 T σ ok _ fun v T1 s1 q1 => hb T0 T1 σ (ok.stp s1) _ fun w T2 s2 q2 => hc T0 T2 σ ((ok.stp s1).stp s2) _ fun u T3 s3 q3 => by
      refine ⟨by show 3 ≤ sizeLine; decide, fun q n => ?_⟩
      have s4 := stp_tup s3.ok (xs := [v, w, u]) n
      refine ⟨q, [v, w, u], rfl, .of upd_same, rfl, v, [w, u], rfl, w, [u], rfl, u, [], rfl, rfl, ?_⟩
      exact hD (T3.tup q [v, w, u]) _ ((((ok.newX s1 q1 i).newX s2 q2 j).newX s3 q3 l).stp s4) (((s1.trans s2).trans s3).trans s4).mon
/-- xs.append(e), xs of one's own -/
theorem es_apu {y : Str} {e : Expr} {py ap cp pos : Pos} {i n : Nat} {k : Wk} {b : Bool} {d : PyData} (nk : noSq F.K = true) (hi : F.N[i]? = some y) (hv : ∀ p, Vis (F.X p).env.scope y) (hd : (y == ("__debug__" : Str)) = false) (hcd : (y == ("__classdict__" : Str)) = false) (hΓ : Γ[i]? = some (.w k)) (hk : wlen k = some n) (hz : n < sizeLine)
    (h : EvP F e (Γ.set i .no) b d) (hn : notStar e = true) (hline : (ap.endLine == cp.line) = true) : ExS F (.Expr (.Call (.Attribute (.Name y py) "append" ap) [e] [] cp) pos) Γ (.nx (Γ.set i (.w (.ul (n + 1))))) := fun T0 T σ ok D hD => by
  obtain ⟨v, R, hv', hP, own, E⟩ := EnvR.start ok hΓ
  obtain ⟨l, vs, rfl, rl, hl⟩ : ∃ l vs, v = .ref l ∧ R l = some (.lst vs) ∧ vs.length ≤ n := by
    cases k with
    | ul m => cases hk; exact hP
    | tree d =>
      cases d with
      | list xs =>
        cases hk
        have hP : Dp F.K R v (.list xs) := hP
        cases hP with
        | @lst l vs _ hs ha => exact ⟨l, vs, rfl, own.nofrz ok.st (sql_rd nk hs), by rw [dpa_len ha]; exact Nat.le_refl _⟩
      | _ => cases hk
  have hni : (Γ.set i En.no)[i]? = some En.no := by
    rw [List.getElem?_set]
    have : i < Γ.length := (List.getElem?_eq_some_iff.mp hΓ).1
    simp [this]
  refine app_stmt E.ok (rec_name hv' hi hv hd hcd) rfl (own.h l _ rl) (by omega) h hn hline fun u T1 s1 h1 _ => ?_
  have E1 := (E.stp s1).grow (ws := []) (y := u) rl (by rw [List.append_nil]; exact h1) (Nat.le_refl _) (by rw [List.append_nil]; omega)
  rw [List.append_nil] at E1
  have fin := E1.fin (m := n + 1) hni hv' rl ⟨vs ++ [u], upd_same, by rw [List.length_append]; simp only [List.length_cons, List.length_nil]; omega⟩
  rw [List.set_set] at fin
  exact hD _ σ fin ⟨s1.f, s1.g⟩
end
end T2
end
section
set_option Elab.async false
set_option linter.all false
set_option autoImplicit false
set_option maxRecDepth 100000
namespace T2
open PySem PySem.Spec L2
open PyProof.Rows hiding St

def parT (S : Sx) : List (Nat × Bool × CE) → List Expr → List Expr → Bool
  | [], [], [] => true
  | (i, _, e) :: r, t :: ts, v :: vs => (match t with | .Name x _ => chkN S x i | _ => false) && notStar v && chk S e v && parT S r ts vs
  | _, _, _ => false
def nameB (S : Sx) (i : Nat) (x : Str) : Bool := decide (S.N[i]? = some x) && visB S.sc x && !eqS x "__debug__" && !eqS x "__classdict__"
/-- x.m(v) -/
structure MtE where
  o : Expr
  m : Str
  ap : Pos
  v : Expr
  cp : Pos
def mtE : Stmt → Option MtE
  | .Expr (.Call (.Attribute o m ap) [v] [] cp) _ => some ⟨o, m, ap, v, cp⟩
  | _ => none
def asg1 : Stmt → Option (Expr × Expr)
  | .Assign [t] v _ => some (t, v)
  | _ => none
def mtB (S : Sx) (i : Nat) (f : Expr → Bool) (m : String) (st : Stmt) : Bool := match mtE st with
  | some M => eqS M.m m && (M.ap.endLine == M.cp.line) && notStar M.v && f M.v && (match M.o with | .Name x _ => nameB S i x | _ => false)
  | none => false
def isLocN (S : Sx) : Expr → Bool
  | .Name x _ => isLoc S.sc x
  | _ => false
def nmOf : Expr → Str
  | .Name x _ => x
  | _ => ⟨#[]⟩
mutual
def chkS (S : Sx) : CS → Stmt → Bool
  | .ret e, st => (match st with | .Return (some x) _ => chk S e x | _ => false)
  | .set i e, st => (match asg1 st with | some (.Name x p, v) => chkN S x i && chk S e v && (notComp v || (swlB S.sc x p v == some false) || (isLc e && (swlB S.sc x p v == some true) && isLoc S.sc x)) | _ => false)
  | .own i e, st => (match asg1 st with | some (.Name x p, v) => chkN S x i && chk S e v && (notComp v || (swlB S.sc x p v == some false) || (isLc e && (swlB S.sc x p v == some true) && isLoc S.sc x)) | _ => false)
  | .unp t e, st => (match asg1 st with | some (x, v) => chkT S x t && notComp v && notTup v && chk S e v | _ => false)
  | .par xs, st => (match asg1 st with | some (.Tuple ts _ _, .Tuple vs _ _) => parT S xs ts vs && (xs.length == 2 || xs.length == 3) && decide ((xs.map (·.1)).Nodup) && ((decide (swSc S.sc ts vs = some (some (ts.map nmOf))) && ts.all (isLocN S)) || decide (swSc S.sc ts vs = some none)) | _ => false)
  | .exp e, st => (match st with | .Expr v _ => notComp v && chk S e v | _ => false)
  | .app i e, st => mtB S i (fun v => chk S e v) "append" st
  | .ext i e, st => mtB S i (fun v => chk S e v) "extend" st
  | .ifs c a b, st => (match st with | .If x sa sb _ => notIfx x && chk S c x && chkB S a sa && chkB S b sb | _ => false)
  | .fo k es t body, st => (match st with | .For tg it b [] _ => notSet it && chkI S k (fun xs => chks S es xs) it && (isTp t || !k.two) && chkT S tg t && chkB S body b | _ => false)
  | .wh _ c body, st => (match st with | .While x b [] _ => notIfx x && chk S c x && chkB S body b | _ => false)
  | .brk, st => (match st with | .Break _ => true | _ => false)
  | .bad, _ => true
  | .clo _, _ => false
  | .spl i j its, st => (match st with | .For (.Name x _) (.Name y _) b [] _ => nameB S i y && nameB S j x && chkN S x j && spSts S x its b | _ => false)
  | .apu i e, st => mtB S i (fun v => chk S e v) "append" st
def chkB (S : Sx) : List CS → List Stmt → Bool
  | [], sts => sts.isEmpty
  | .clo _ :: r, sts => chkB S r sts
  | s :: r, sts => (match sts with | st :: sts => chkS S s st && chkB S r sts | [] => false)
end
theorem mtE_of {st : Stmt} {M : MtE} (h : mtE st = some M) : ∃ p, st = .Expr (.Call (.Attribute M.o M.m M.ap) [M.v] [] M.cp) p := by
  unfold mtE at h
  split at h
  · cases h; exact ⟨_, rfl⟩
  · cases h
theorem asg1_of {st : Stmt} {t v : Expr} (h : asg1 st = some (t, v)) : ∃ p, st = .Assign [t] v p := by
  unfold asg1 at h
  split at h
  · cases h; exact ⟨_, rfl⟩
  · cases h
section
variable {F : Fm} {S : Sx} {Γ : List En}
theorem nameB_ok {i : Nat} {x : Str} (hS : SOk F S) (h : nameB S i x = true) : F.N[i]? = some x ∧ visB S.sc x = true ∧ (x == ("__debug__" : Str)) = false ∧ (x == ("__classdict__" : Str)) = false := by
  simp only [nameB, Bool.and_eq_true, decide_eq_true_eq] at h
  exact ⟨by rw [hS.n]; exact h.1.1.1, h.1.1.2, neS_of h.1.2, neS_of h.2⟩
theorem mtB_of {i : Nat} {f : Expr → Bool} {m : String} {st : Stmt} (h : mtB S i f m st = true) : ∃ x px ap v cp p, st = .Expr (.Call (.Attribute (.Name x px) (Str.ofString m) ap) [v] [] cp) p ∧ (ap.endLine == cp.line) = true ∧ notStar v = true ∧ f v = true ∧ nameB S i x = true := by
  unfold mtB at h
  split at h
  · rename_i M hM
    obtain ⟨p, rfl⟩ := mtE_of hM
    simp only [Bool.and_eq_true] at h
    obtain ⟨⟨⟨⟨h1, h2⟩, h3⟩, h4⟩, h5⟩ := h
    obtain ⟨o, mm, ap, v, cp⟩ := M
    simp only at h1 h2 h3 h4 h5 ⊢
    have e := eqS_of h1
    subst e
    split at h5
    · exact ⟨_, _, _, _, _, _, rfl, h2, h3, h4, h5⟩
    · cases h5
  · cases h
/-- the stores of a, b = .. -/
theorem evp_ok (hS : SOk F S) : ∀ {xs : List (Nat × Bool × CE)} {ts vs : List Expr} {es : List (Nat × En)}, parT S xs ts vs = true → evp S.C xs Γ = some es → es.map (·.1) = xs.map (·.1) ∧ ts.length = es.length ∧ vs.length = es.length ∧
    ∀ (m i : Nat) (en : En), es[m]? = some (i, en) → ∃ (x : Str) (p : Pos) (v : Expr), ts[m]? = some (Expr.Name x p) ∧ vs[m]? = some v ∧ chkN S x i = true ∧ notStar v = true ∧ EvX F v Γ en
  | [], [], [], es, _, q => by cases q; exact ⟨rfl, rfl, rfl, fun m i en z => by simp at z⟩
  | [], [], _ :: _, es, h, _ => by cases h
  | [], _ :: _, _, es, h, _ => by cases h
  | _ :: _, [], _, es, h, _ => by cases h
  | _ :: _, _ :: _, [], es, h, _ => by cases h
  | (i, own, e) :: r, t :: ts, v :: vs, es, h, q => by
    simp only [parT, Bool.and_eq_true] at h
    obtain ⟨⟨⟨h1, h2⟩, h3⟩, h4⟩ := h
    unfold evp at q
    obtain ⟨en, q1, q⟩ := bind_of q
    obtain ⟨en0, q0, q1⟩ := bind_of q1
    obtain ⟨es', q2, rfl⟩ := map_of q
    obtain ⟨r1, r2, r3, r4⟩ := evp_ok hS h4 q2
    split at h1
    · refine ⟨by simp [r1], by simp [r2], by simp [r3], fun m i' en' z => ?_⟩
      cases m with
      | zero =>
        simp only [List.getElem?_cons_zero, Option.some.injEq, Prod.mk.injEq] at z
        obtain ⟨rfl, rfl⟩ := z
        exact ⟨_, _, v, rfl, rfl, h1, h2, evx_enOf (snd e hS h3 q0).1 q1⟩
      | succ m =>
        simp only [List.getElem?_cons_succ] at z
        obtain ⟨x, p, v', z1, z2, z3⟩ := r4 m i' en' z
        exact ⟨x, p, v', by simpa using z1, by simpa using z2, z3⟩
    · cases h1
theorem par_ok (hS : SOk F S) {xs : List (Nat × Bool × CE)} {ts vs : List Expr} {k k2 : Nat} {p p2 pos : Pos} {es : List (Nat × En)} (h : parT S xs ts vs = true) (hl : (xs.length == 2 || xs.length == 3) = true) (nd : (xs.map (·.1)).Nodup) (q : evp S.C xs Γ = some es)
    (hw : (swSc S.sc ts vs = some (some (ts.map nmOf)) ∧ ts.all (isLocN S) = true) ∨ swSc S.sc ts vs = some none) : ExS F (.Assign [.Tuple ts k p] (.Tuple vs k2 p2) pos) Γ (.nx (sets Γ es)) := by
  obtain ⟨r1, r2, r3, r4⟩ := evp_ok (F := F) hS h q
  have ln : es.length = xs.length := by rw [← List.length_map (f := (·.1)), r1, List.length_map]
  rw [← r1] at nd
  simp only [Bool.or_eq_true, beq_iff_eq] at hl
  rcases hl with hl | hl
  · have l2 : es.length = 2 := by omega
    match es, l2 with
    | [(i, e1), (j, e2)], _ =>
      obtain ⟨x, px, a, a1, a2, a3, a4, a5⟩ := r4 0 i e1 rfl
      obtain ⟨y, py, b, b1, b2, b3, b4, b5⟩ := r4 1 j e2 rfl
      match ts, vs, r2, r3 with
      | [t1, t2], [v1, v2], _, _ =>
        simp only [List.getElem?_cons_zero, List.getElem?_cons_succ, Option.some.injEq] at a1 a2 b1 b2
        subst a1 a2 b1 b2
        obtain ⟨i1, i2, i3⟩ := chkN_fn hS a3
        obtain ⟨j1, j2, j3⟩ := chkN_fn hS b3
        rcases hw with ⟨w1, w2⟩ | w1
        · simp only [List.all_cons, List.all_nil, Bool.and_true, Bool.and_eq_true, isLocN] at w2
          exact es_par i j a5 b5 (by simpa using nd) i1 j1 (fun p => by rw [hS.sc p]; exact isLoc_of w2.1) (fun p => by rw [hS.sc p]; exact isLoc_of w2.2) (fun _ => star_cons a4 _ _) (fun _ => star_cons b4 _ _) (fun p => swSc_ok (by rw [hS.sc p]; exact w1)) fun p => rfl
        · exact es_parG i j a5 b5 i1 j1 i2 j2 i3 j3 (fun _ => star_cons a4 _ _) (fun _ => star_cons b4 _ _) (fun p => swSc_ok (by rw [hS.sc p]; exact w1)) (fun p => rfl)
  · have l2 : es.length = 3 := by omega
    match es, l2 with
    | [(i, e1), (j, e2), (l, e3)], _ =>
      obtain ⟨x, px, a, a1, a2, a3, a4, a5⟩ := r4 0 i e1 rfl
      obtain ⟨y, py, b, b1, b2, b3, b4, b5⟩ := r4 1 j e2 rfl
      obtain ⟨z, pz, c, c1, c2, c3, c4, c5⟩ := r4 2 l e3 rfl
      match ts, vs, r2, r3 with
      | [t1, t2, t3], [v1, v2, v3], _, _ =>
        simp only [List.getElem?_cons_zero, List.getElem?_cons_succ, Option.some.injEq] at a1 a2 b1 b2 c1 c2
        subst a1 a2 b1 b2 c1 c2
        obtain ⟨i1, i2, i3⟩ := chkN_fn hS a3
        obtain ⟨j1, j2, j3⟩ := chkN_fn hS b3
        obtain ⟨k1, k2, k3⟩ := chkN_fn hS c3
        rcases hw with ⟨w1, w2⟩ | w1
        · simp only [List.all_cons, List.all_nil, Bool.and_true, Bool.and_eq_true, isLocN] at w2
          have nd' : (i ≠ j ∧ i ≠ l) ∧ j ≠ l := by simpa using nd
          exact es_par3 i j l a5 b5 c5 nd'.1.1 nd'.1.2 nd'.2 i1 j1 k1 (fun p => by rw [hS.sc p]; exact isLoc_of w2.1) (fun p => by rw [hS.sc p]; exact isLoc_of w2.2.1) (fun p => by rw [hS.sc p]; exact isLoc_of w2.2.2) (fun _ => star_cons a4 _ _) (fun _ => star_cons b4 _ _) (fun _ => star_cons c4 _ _) (fun p => swSc_ok (by rw [hS.sc p]; exact w1)) fun p => rfl
        · exact es_par3G i j l a5 b5 c5 i1 j1 k1 i2 j2 k2 i3 j3 k3 a4 b4 c4 (fun p => swSc_ok (by rw [hS.sc p]; exact w1))
/-- a loop's turns -/
theorem lop_ok {tg : Expr} {body : List Stmt} {b : Bool} {f : List En → PyData → Option Out} (hf : ∀ Γ d o, f Γ d = some o → ∃ vs Γ1, TgP F tg Γ b d vs Γ1 ∧ ExB F body Γ1 o) : ∀ {ds : List PyData} {Γ : List En} {o : Out}, lop f Γ ds = some o → Lp F tg body b Γ ds o
  | [], Γ, o, h => by cases h; exact .nil
  | d :: ds, Γ, o, h => by
    simp only [lop] at h
    obtain ⟨o1, h1, h2⟩ := bind_of h
    obtain ⟨vs, Γ1, t1, t2⟩ := hf Γ d o1 h1
    cases o1 with
    | nx Γ' => exact .next t1 t2 (lop_ok hf h2)
    | ct Γ' => exact .cont t1 t2 (lop_ok hf h2)
    | bk Γ' => cases h2; exact .brk t1 t2
    | rt c x => cases h2; exact .ret t1 t2
theorem whl_ok {c : Expr} {body : List Stmt} {t : List En → Option Bool} {f : List En → Option Out} (ht : ∀ Γ k, t Γ = some k → TsP F c Γ k) (hf : ∀ Γ o, f Γ = some o → ExB F body Γ o) : ∀ {n : Nat} {Γ : List En} {o : Out}, whl t f n Γ = some o → Wh F c body n Γ o
  | 0, Γ, o, h => by
    rw [whl] at h
    obtain ⟨k, h1, h2⟩ := bind_of h
    cases k with
    | false => cases h2; exact .stop (ht Γ false h1)
    | true => cases h2
  | n + 1, Γ, o, h => by
    rw [whl] at h
    obtain ⟨k, h1, h2⟩ := bind_of h
    cases k with
    | false => cases h2; exact .stop (ht Γ false h1)
    | true =>
      simp only at h2
      obtain ⟨o1, h3, h4⟩ := bind_of h2
      cases o1 with
      | nx Γ' => exact .next (ht Γ true h1) (hf Γ _ h3) (whl_ok ht hf h4)
      | ct Γ' => cases h4
      | bk Γ' => cases h4; exact .brk (ht Γ true h1) (hf Γ _ h3)
      | rt b x => cases h4; exact .ret (ht Γ true h1) (hf Γ _ h3)
end
end T2
end
section
set_option Elab.async false
set_option linter.all false
set_option autoImplicit false
set_option maxRecDepth 100000
namespace T2
open PySem PySem.Spec L2
open PyProof.Rows hiding St

theorem leaves_of {o : Out} (h : ∀ Γ, o ≠ .nx Γ) : o.leaves := by
  cases o with
  | nx Γ => exact absurd rfl (h Γ)
  | _ => trivial
section
variable {F : Fm} {S : Sx} {Γ : List En}
theorem unp_ok {x e : Expr} {pos : Pos} {a : Ar} {t : CT} {ce : CE} {Γ' : List En} (hS : SOk F S) (h1 : chkT S x t = true) (h2 : notComp e = true) (h3 : notTup e = true) (h : EvP F e Γ a.1 a.2) (q : tgt t Γ a.1 a.2 = some Γ') : ExS F (.Assign [x] e pos) Γ (.nx Γ') := by
  refine es_unp h (tgt_ok hS h1 q) (fun p => sw_no h2 _ _ _) (fun p => ?_) fun p => ?_
  · cases e <;> first | (cases x <;> rfl) | (cases h3; done)
  · cases t with
    | nm i =>
      unfold chkT at h1
      split at h1
      · split at h1
        · rfl
        · cases h1
      · rename_i z; cases z
    | tp is =>
      unfold chkT at h1
      split at h1
      · rename_i z; cases z
      · split at h1
        · rfl
        · cases h1
theorem app_ok {i : Nat} {a : Ar} {x : Str} {v : Expr} {px ap cp pos : Pos} {Γ' : List En} (hS : SOk F S) (hb : nameB S i x = true) (hl : (ap.endLine == cp.line) = true) (hn : notStar v = true) (h : EvP F v Γ a.1 a.2) (q : gro Γ i a = some Γ') : ExS F (.Expr (.Call (.Attribute (.Name x px) "append" ap) [v] [] cp) pos) Γ (.nx Γ') := by
  obtain ⟨b1, b2, b3, b4⟩ := nameB_ok hS hb
  unfold gro at q
  split at q
  · rename_i b xs hΓ
    simp only [Option.ite_none_right_eq_some, Option.some.injEq] at q
    obtain ⟨hz, rfl⟩ := q
    intro T0 T σ ok D hD
    obtain ⟨l, vs, e1, e2, e3, e4, e5⟩ := ok.has i _ hΓ
    have len := dpa_len e5
    refine app_stmt ok (rec_name e1 b1 (hS.vis b2) b3 b4) rfl e4 (by omega) h hn hl fun u T1 s1 h1 hu => ?_
    have lv : DpAll F.K (T1.lv (b && lv1 a)) (vs ++ [u]) (xs ++ [a.2]) := by
      have v5 := upA e5 (s1.l b)
      have o1 := s1.ok
      refine dpa_app ?_ (.cons ?_ .nil)
      · cases b with
        | true =>
          cases lv1 a with
          | true => exact v5
          | false => exact upA v5 o1.fg
        | false => exact v5
      · cases q : lv1 a with
        | true =>
          cases b with
          | true =>
            simp only [lv1, Bool.or_eq_true] at q
            rcases q with z | z
            · rw [z] at hu; exact hu
            · exact imm_l o1 hu z true
          | false => exact up hu (o1.lg a.1)
        | false =>
          cases b with
          | true => exact up hu (o1.lg a.1)
          | false => exact up hu (o1.lg a.1)
    have low : DpAll F.K (T1.lv (b && lv1 a)) vs xs := by
      cases b with
      | true =>
        cases lv1 a with
        | true => exact upA e5 (s1.l true)
        | false => exact upA (upA e5 (s1.l true)) s1.ok.fg
      | false => exact upA e5 (s1.l false)
    have ok1 := ok.stp s1
    have okL : EnvOk F.K T0 T1 σ (Γ.set i (.o (b && lv1 a) xs)) := by
      have := (ok1.drop (u := some (.ref l)) i)
      have es : σ.set i (some (V.ref l)) = σ := by
        apply List.ext_getElem?
        intro j
        rw [List.getElem?_set]
        split
        · rename_i hj
          subst hj
          split
          · exact e1.symm
          · rename_i hlt
            rw [List.getElem?_eq_none (by omega)] at e1; cases e1
        · rfl
      obtain ⟨Rs, w⟩ := ok1.rg
      have hn : ∀ (j : Nat) (c : Bool) (zs : List PyData), (Γ.set i En.no)[j]? = some (.o c zs) → σ[j]? ≠ some (some (.ref l)) := fun j c zs q z => by
        obtain ⟨n1, q1⟩ := set_o (e := .no) (fun _ _ z => by cases z) q
        exact ok1.ne i j _ _ _ _ (Ne.symm n1) hΓ q1 (by rw [e1, z])
      have w0 : WOk F.K T0 T1 σ (Γ.set i .no) Rs := by
        have := w.set (i := i) (u := some (.ref l)) (e := .no) (fun _ z => by cases z) fun _ _ z => by cases z
        rw [es] at this
        exact this
      rw [es] at this
      have g1 : T1.G l = none := (s1.ng l (by rw [e4]; simp)).trans e3
      have s := this.setO (l := l) (b := b && lv1 a) (vs := vs) (xs := xs) i e2 g1 h1 low hn ⟨Rs, w0, fun j k q => w.wo j i k b xs l (set_w (e := .no) (fun _ z => by cases z) q).2 hΓ e1⟩
      rw [es, List.set_set] at s
      exact s
    have hi : i < Γ.length := (List.getElem?_eq_some_iff.mp hΓ).1
    have gr := okL.grow i (b := b && lv1 a) (xs := xs) (ys := xs ++ [a.2]) (l := l) (vs := vs) (us := vs ++ [u]) (by rw [List.getElem?_set]; simp [hi]) e1 h1 lv (by rw [List.length_append]; simp only [List.length_cons, List.length_nil]; omega)
    rw [List.set_set] at gr
    exact hD _ σ gr ⟨s1.f, s1.g⟩
  · cases q
/-- a list of one's own at a lower level -/
theorem EnvOk.lowO {K : PySem.W.Frag} {T0 T : Hs} {σ : St} {i : Nat} {b c : Bool} {xs : List PyData} (ok : EnvOk K T0 T σ Γ) (hΓ : Γ[i]? = some (.o b xs)) (hbc : c = true → b = true) : EnvOk K T0 T σ (Γ.set i (.o c xs)) := by
  obtain ⟨l, vs, e1, e2, e3, e4, e5⟩ := ok.has i _ hΓ
  have low : DpAll K (T.lv c) vs xs := by
    cases c with
    | true => rw [hbc rfl] at e5; exact e5
    | false => exact upA e5 (ok.ok.lg b)
  have this := (ok.drop (u := some (.ref l)) i)
  have es : σ.set i (some (V.ref l)) = σ := by
    apply List.ext_getElem?
    intro j
    rw [List.getElem?_set]
    split
    · rename_i hj
      subst hj
      split
      · exact e1.symm
      · rename_i hlt
        rw [List.getElem?_eq_none (by omega)] at e1; cases e1
    · rfl
  obtain ⟨Rs, w⟩ := ok.rg
  have hn : ∀ (j : Nat) (c : Bool) (zs : List PyData), (Γ.set i En.no)[j]? = some (.o c zs) → σ[j]? ≠ some (some (.ref l)) := fun j c zs q z => by
    obtain ⟨n1, q1⟩ := set_o (e := .no) (fun _ _ z => by cases z) q
    exact ok.ne i j _ _ _ _ (Ne.symm n1) hΓ q1 (by rw [e1, z])
  have w0 : WOk K T0 T σ (Γ.set i .no) Rs := by
    have := w.set (i := i) (u := some (.ref l)) (e := .no) (fun _ z => by cases z) fun _ _ z => by cases z
    rw [es] at this
    exact this
  rw [es] at this
  have s := this.setO (l := l) (b := c) (vs := vs) (xs := xs) i e2 e3 e4 low hn ⟨Rs, w0, fun j k q => w.wo j i k b xs l (set_w (e := .no) (fun _ z => by cases z) q).2 hΓ e1⟩
  rw [es, List.set_set] at s
  exact s
theorem ext_ok {i : Nat} {en : En} {x : Str} {v : Expr} {px ap cp pos : Pos} {Γ' : List En} (hS : SOk F S) (hb : nameB S i x = true) (hl : (ap.endLine == cp.line) = true) (hn : notStar v = true) (h : EvX F v Γ en) (q : groL Γ i en = some Γ') : ExS F (.Expr (.Call (.Attribute (.Name x px) "extend" ap) [v] [] cp) pos) Γ (.nx Γ') := by
  obtain ⟨b1, b2, b3, b4⟩ := nameB_ok hS hb
  unfold groL at q
  split at q
  · rename_i b xs c ys hΓ
    simp only [Option.ite_none_right_eq_some, Option.some.injEq] at q
    obtain ⟨hz, rfl⟩ := q
    intro T0 T σ ok D hD
    obtain ⟨l, vs, e1, e2, e3, e4, e5⟩ := ok.has i _ hΓ
    refine wpS_of (fun p => tDrop (tBM (F.X p).K "list" rExtend (tVar i) (tCons (wpE F v) tNil))) (fun p => ps_expr (pe_bm PySem.F.plainAttrs_list PySem.F.slot_list_extend PySem.F.type_list_extend mt_extend (pe_var (by rw [F.hN p]; exact b1) (hS.vis b2 p) b3 b4) (pa_cons (pe_wp p) pa_nil (star_cons hn _ _)) (base_of (o := .Name x px) rfl _ _ _) (few_of hn _ _) hl (star_cons hn _ _) rfl) rfl) fun p => ?_
    refine ⟨.ref l, e1, .inl ⟨rfl, vs, .of e4⟩, h T0 T σ ok _ fun u T1 s1 q1 => ?_⟩
    obtain ⟨m, us, rfl, n, g, q, a⟩ := q1
    have hl1 : vs.length = xs.length := dpa_len e5
    have hl2 : us.length = ys.length := dpa_len a
    refine ⟨l, m, vs, us, rfl, rfl, s1.h _ _ e4, q, by omega, ?_⟩
    have okL := (ok.stp s1).lowO (c := b && c) hΓ (fun z => by cases b <;> simp_all)
    have hi : i < Γ.length := (List.getElem?_eq_some_iff.mp hΓ).1
    have gr := okL.grow i (b := b && c) (xs := xs) (ys := xs ++ ys) (l := l) (vs := vs) (us := vs ++ us) (by rw [List.getElem?_set]; simp [hi]) e1 (s1.h _ _ e4) (low_and s1.ok (upA e5 (s1.l b)) a) (by rw [List.length_append]; omega)
    rw [List.set_set] at gr
    exact hD _ σ gr ⟨s1.f, s1.g⟩
  · cases q
end
mutual
theorem sndS : ∀ (cs : CS) {F : Fm} {S : Sx} {st : Stmt} {Γ : List En} {o : Out}, SOk F S → noSq F.K = true → chkS S cs st = true → exS S.C cs Γ = some o → ExS F st Γ o
  | .ret e, F, S, st, Γ, o, hS, nk, h, q => by
    unfold chkS at h
    split at h
    · unfold exS at q
      obtain ⟨a, q1, rfl⟩ := map_of q
      obtain ⟨en, q2, q3⟩ := vl_of q1
      exact es_ret (evp_lv (evx_val (snd e hS h q2).1 q3) id)
    · cases h
  | .set i e, F, S, st, Γ, o, hS, nk, h, q => by
    unfold chkS at h
    split at h
    · rename_i x p v hx
      obtain ⟨p', rfl⟩ := asg1_of hx
      simp only [Bool.and_eq_true] at h
      unfold exS at q
      obtain ⟨a, q1, rfl⟩ := map_of q
      obtain ⟨en, q2, q3⟩ := vl_of q1
      exact asg_ok (own := false) hS h.1.1 h.1.2 q2 (by show en.val.map _ = _; rw [q3]; rfl) h.2
    · cases h
  | .own i e, F, S, st, Γ, o, hS, nk, h, q => by
    unfold chkS at h
    split at h
    · rename_i x p v hx
      obtain ⟨p', rfl⟩ := asg1_of hx
      simp only [Bool.and_eq_true] at h
      unfold exS at q
      obtain ⟨en', q1, rfl⟩ := map_of q
      obtain ⟨en, q2, q3⟩ := bind_of q1
      exact asg_ok hS h.1.1 h.1.2 q2 q3 h.2
    · cases h
  | .unp t e, F, S, st, Γ, o, hS, nk, h, q => by
    unfold chkS at h
    split at h
    · rename_i x v hx
      obtain ⟨p', rfl⟩ := asg1_of hx
      simp only [Bool.and_eq_true] at h
      unfold exS at q
      obtain ⟨a, q1, q⟩ := bind_of q
      obtain ⟨Γ', q4, rfl⟩ := map_of q
      obtain ⟨en, q2, q3⟩ := vl_of q1
      exact unp_ok (ce := e) hS h.1.1.1 h.1.1.2 h.1.2 (evx_val (snd e hS h.2 q2).1 q3) q4
    · cases h
  | .par xs, F, S, st, Γ, o, hS, nk, h, q => by
    unfold chkS at h
    split at h
    · rename_i hx
      obtain ⟨p', rfl⟩ := asg1_of hx
      simp only [Bool.and_eq_true, Bool.or_eq_true, decide_eq_true_eq] at h
      obtain ⟨⟨⟨h1, h2⟩, h3⟩, h4⟩ := h
      unfold exS at q
      obtain ⟨es, q1, rfl⟩ := map_of q
      exact par_ok hS h1 (by simpa using h2) h3 q1 h4
    · cases h
  | .exp e, F, S, st, Γ, o, hS, nk, h, q => by
    unfold chkS at h
    split at h
    · simp only [Bool.and_eq_true] at h
      unfold exS at q
      obtain ⟨a, q1, rfl⟩ := map_of q
      obtain ⟨en, q2, q3⟩ := vl_of q1
      exact es_expr (evx_val (snd e hS h.2 q2).1 q3) fun p => sw_no h.1 _ _ _
    · cases h
  | .app i e, F, S, st, Γ, o, hS, nk, h, q => by
    unfold chkS at h
    obtain ⟨x, px, ap, v, cp, p, rfl, h1, h2, h3, h4⟩ := mtB_of h
    unfold exS at q
    obtain ⟨a, q1, q⟩ := bind_of q
    obtain ⟨Γ', q4, rfl⟩ := map_of q
    obtain ⟨en, q2, q3⟩ := vl_of q1
    exact app_ok hS h4 h1 h2 (evx_val (snd e hS h3 q2).1 q3) q4
  | .ext i e, F, S, st, Γ, o, hS, nk, h, q => by
    unfold chkS at h
    obtain ⟨x, px, ap, v, cp, p, rfl, h1, h2, h3, h4⟩ := mtB_of h
    unfold exS at q
    obtain ⟨en, q1, q⟩ := bind_of q
    obtain ⟨Γ', q4, rfl⟩ := map_of q
    exact ext_ok hS h4 h1 h2 (snd e hS h3 q1).1 q4
  | .ifs c a b, F, S, st, Γ, o, hS, nk, h, q => by
    unfold chkS at h
    split at h
    · simp only [Bool.and_eq_true] at h
      obtain ⟨⟨⟨h1, h2⟩, h3⟩, h4⟩ := h
      unfold exS at q
      obtain ⟨k, q1, q⟩ := bind_of q
      obtain ⟨ec, q2, q3⟩ := bind_of q1
      refine es_if ((snd c hS h2 q2).2 k q3 h1).1 (fun z => ?_) fun z => ?_
      · subst z; exact sndB a hS nk h3 q
      · subst z; exact sndB b hS nk h4 q
    · cases h
  | .fo k es t body, F, S, st, Γ, o, hS, nk, h, q => by
    unfold chkS at h
    split at h
    · simp only [Bool.and_eq_true] at h
      obtain ⟨⟨⟨⟨h1, h2⟩, h3⟩, h4⟩, h5⟩ := h
      unfold exS at q
      obtain ⟨as, q1, q⟩ := bind_of q
      obtain ⟨it, q2, q⟩ := bind_of q
      refine es_for (it_ok hS h2 q2 (fun xs hx => snds es hS hx q1) fun hk => tgt_tup h4 (by rw [hk] at h3; simpa using h3)) (lop_ok (fun Γ d o hr => ?_) q) fun _ _ => fold_of h1 _ _
      obtain ⟨Γ1, r1, r2⟩ := bind_of hr
      exact ⟨_, Γ1, tgt_ok hS h4 r1, sndB body hS nk h5 r2⟩
    · cases h
  | .wh n c body, F, S, st, Γ, o, hS, nk, h, q => by
    unfold chkS at h
    split at h
    · simp only [Bool.and_eq_true] at h
      obtain ⟨⟨h1, h2⟩, h3⟩ := h
      unfold exS at q
      refine es_while (whl_ok (fun Γ k hk => ?_) (fun Γ o ho => sndB body hS nk h3 ho) q)
      obtain ⟨ec, r1, r2⟩ := bind_of hk
      exact ((snd c hS h2 r1).2 k r2 h1).1
    · cases h
  | .brk, F, S, st, Γ, o, hS, nk, h, q => by
    unfold chkS at h
    split at h
    · unfold exS at q
      cases q
      exact es_brk
    · cases h
  | .bad, F, S, st, Γ, o, hS, nk, h, q => by
    unfold exS at q
    cases q
  | .clo i, F, S, st, Γ, o, hS, nk, h, q => by
    unfold exS at q
    cases q
  | .spl i j its, F, S, st, Γ, o, hS, nk, h, q => by
    unfold chkS at h
    split at h
    · simp only [Bool.and_eq_true] at h
      obtain ⟨⟨⟨h1, h2⟩, h3⟩, h4⟩ := h
      obtain ⟨b1, b2, b3, b4⟩ := nameB_ok hS h1
      obtain ⟨c1, c2, c3, c4⟩ := nameB_ok hS h2
      unfold exS at q
      split at q
      · rename_i rows hΓ
        simp only [Option.ite_none_right_eq_some, Option.some.injEq] at q
        obtain ⟨⟨q1, q2, q3⟩, rfl⟩ := q
        exact es_spl nk hS q1 b1 b2 b3 b4 h3 c2 c3 c4 hΓ q2 h4 q3
      · cases q
    · cases h
  | .apu i e, F, S, st, Γ, o, hS, nk, h, q => by
    unfold chkS at h
    obtain ⟨x, px, ap, v, cp, p, rfl, h1, h2, h3, h4⟩ := mtB_of h
    obtain ⟨b1, b2, b3, b4⟩ := nameB_ok hS h4
    unfold exS at q
    split at q
    · rename_i k hΓ
      obtain ⟨n, q1, q⟩ := bind_of q
      obtain ⟨a, q2, q⟩ := bind_of q
      simp only [Option.ite_none_right_eq_some, Option.some.injEq] at q
      obtain ⟨hz, rfl⟩ := q
      obtain ⟨en, q5, q6⟩ := vl_of q2
      exact es_apu nk b1 (hS.vis b2) b3 b4 hΓ q1 hz (evx_val (snd e hS h3 q5).1 q6) h2 h1
    · cases q
theorem sndB : ∀ (cs : List CS) {F : Fm} {S : Sx} {sts : List Stmt} {Γ : List En} {o : Out}, SOk F S → noSq F.K = true → chkB S cs sts = true → exB S.C cs Γ = some o → ExB F sts Γ o
  | [], F, S, sts, Γ, o, hS, nk, h, q => by
    unfold chkB at h
    unfold exB at q
    cases q
    cases sts with
    | nil => exact ex_nil
    | cons _ _ => cases h
  | s :: r, F, S, sts, Γ, o, hS, nk, h, q => by
    by_cases hc : ∃ i, s = .clo i
    · obtain ⟨i, rfl⟩ := hc
      unfold chkB at h
      unfold exB at q
      split at q
      · exact ex_lend (lend_o ‹_›) (sndB r hS nk h q)
      · exact ex_lend (lend_w ‹_›) (sndB r hS nk h q)
      · cases q
    · have q' : ((exS S.C s Γ).bind fun o => Out.thn o fun Γ' => exB S.C r Γ') = some o := by
        cases s <;> first | (exact absurd ⟨_, rfl⟩ hc) | (unfold exB at q; exact q)
      cases sts with
      | nil =>
        exfalso
        cases s <;> first | (exact absurd ⟨_, rfl⟩ hc) | (unfold chkB at h; cases h)
      | cons st sts =>
        have h' : (chkS S s st && chkB S r sts) = true := by
          cases s <;> first | (exact absurd ⟨_, rfl⟩ hc) | (unfold chkB at h; exact h)
        rw [Bool.and_eq_true] at h'
        obtain ⟨o1, q1, q2⟩ := bind_of q'
        have s1 := sndS s hS nk h'.1 q1
        cases o1 with
        | nx Γ' => exact ex_cons s1 (sndB r hS nk h'.2 q2)
        | rt b d => cases q2; exact ex_stop s1
        | bk Γ' => cases q2; exact ex_stop s1
        | ct Γ' => cases q2; exact ex_stop s1
end
end T2
end
section
set_option Elab.async false
set_option linter.all false
set_option autoImplicit false
set_option maxRecDepth 100000
namespace T2
open PySem PySem.Spec L2
open PyProof.Rows hiding St

/-- what a def's text may lean on -/
structure Cty (P : Program) (w : World) (K : PySem.W.Frag) (mg : Str → Option Value) (base : Heap) (C : Cf) (k : Nat) : Prop where
  gl : ∀ (n : Nat) (q : Str × PyData), C.glb[n]? = some q → (∃ i t, q.2 = .int i ∧ mg q.1 = some (.int i t)) ∨ ∃ i t, q.2 = .str i ∧ mg q.1 = some (.str i t)
  fs : ∀ (n : Nat) (q : Str × Fu), C.fns[n]? = some q → ∃ l, l ≤ k ∧ FnD P w K mg base l q.1 (fun as r => q.2 as = some r)
section
variable {P : Program} {w : World} {K : PySem.W.Frag} {mg : Str → Option Value} {base : Heap}
theorem run_len {C : Cf} {np n : Nat} {body : List CS} {as : List Ar} {r : Ar} (h : run C np n body as = some r) : as.length = np := by
  unfold run at h
  split at h
  · assumption
  · cases h
theorem fn_ok {x qual : Str} {st : Stmt} {f : Addr} {fd : FuncData} {N ps : List Str} {k : Nat} {C : Cf} {body : List CS} (Fn : Fun K x qual st f fd) (Sc : FnScope N ps (defScope st)) (hg : mg x = some (.ref f)) (hb : Binds K fd ps []) (nk : noSq K = true) (bl : ∀ x ∈ bltNames, mg (Str.ofString x) = none)
    (hc : chkB ⟨N, defScope st, fun _ => true, C⟩ body (defBody st) = true) (ct : Cty P w K mg base C k) : FnD P w K mg base (k + 1) x (fun as r => run C ps.length N.length body as = some r) := by
  refine def_ok Fn Sc hg hb (fun as r h => run_len h) fun cdv A outer s H E hr as r h => ?_
  have hl := run_len h
  unfold run at h
  rw [if_pos hl] at h
  obtain ⟨o, h1, h2⟩ := bind_of h
  have ok : SOk (fm0 P w K mg base N qual (defScope st) f k Sc.nd cdv A outer s H E hr) ⟨N, defScope st, fun _ => true, C⟩ := ⟨rfl, fun _ => rfl, fun _ _ _ => rfl, bl, ct.gl, ct.fs⟩
  have ex := sndB body ok nk hc h1
  refine ⟨o, ?_, ex⟩
  cases o with
  | rt b d => cases h2; exact .inl rfl
  | nx Γ => cases h2; exact .inr ⟨Γ, rfl, rfl⟩
  | bk Γ => cases h2
  | ct Γ => cases h2
theorem FnD.weaken {l : Nat} {x : Str} {R : List Ar → Ar → Prop} (h : FnD P w K mg base l x R) : ∃ l', l' ≤ l ∧ FnD P w K mg base l' x R := ⟨l, Nat.le_refl _, h⟩
theorem cty_nil {k : Nat} {glb : List (Str × PyData)} (gl : ∀ (n : Nat) (q : Str × PyData), glb[n]? = some q → (∃ i t, q.2 = .int i ∧ mg q.1 = some (.int i t)) ∨ ∃ i t, q.2 = .str i ∧ mg q.1 = some (.str i t)) : Cty P w K mg base ⟨glb, []⟩ k := ⟨gl, fun n q h => by simp at h⟩
theorem cty_fn {k l : Nat} {glb : List (Str × PyData)} {x : Str} {f : Fu} {fns : List (Str × Fu)} (h : FnD P w K mg base l x (fun as r => f as = some r)) (hl : l ≤ k) (t : Cty P w K mg base ⟨glb, fns⟩ k) : Cty P w K mg base ⟨glb, (x, f) :: fns⟩ k := by
  refine ⟨t.gl, fun n q e => ?_⟩
  cases n with
  | zero =>
    simp only [List.getElem?_cons_zero, Option.some.injEq] at e
    subst e
    exact ⟨l, hl, h⟩
  | succ n => exact t.fs n q (by simpa using e)
theorem gl_nil : ∀ (n : Nat) (q : Str × PyData), ([] : List (Str × PyData))[n]? = some q → (∃ i t, q.2 = .int i ∧ mg q.1 = some (.int i t)) ∨ ∃ i t, q.2 = .str i ∧ mg q.1 = some (.str i t) := fun n q h => by simp at h
theorem gl_int {x : Str} {i : Int} {t : Tok} {glb : List (Str × PyData)} (h : mg x = some (.int i t)) (r : ∀ (n : Nat) (q : Str × PyData), glb[n]? = some q → (∃ i t, q.2 = .int i ∧ mg q.1 = some (.int i t)) ∨ ∃ i t, q.2 = .str i ∧ mg q.1 = some (.str i t)) :
    ∀ (n : Nat) (q : Str × PyData), ((x, PyData.int i) :: glb)[n]? = some q → (∃ i t, q.2 = .int i ∧ mg q.1 = some (.int i t)) ∨ ∃ i t, q.2 = .str i ∧ mg q.1 = some (.str i t) := fun n q e => by
  cases n with
  | zero =>
    simp only [List.getElem?_cons_zero, Option.some.injEq] at e
    subst e
    exact .inl ⟨i, t, rfl, h⟩
  | succ n => exact r n q (by simpa using e)
theorem gl_str {x : Str} {i : Str} {t : Tok} {glb : List (Str × PyData)} (h : mg x = some (.str i t)) (r : ∀ (n : Nat) (q : Str × PyData), glb[n]? = some q → (∃ i t, q.2 = .int i ∧ mg q.1 = some (.int i t)) ∨ ∃ i t, q.2 = .str i ∧ mg q.1 = some (.str i t)) :
    ∀ (n : Nat) (q : Str × PyData), ((x, PyData.str i) :: glb)[n]? = some q → (∃ i t, q.2 = .int i ∧ mg q.1 = some (.int i t)) ∨ ∃ i t, q.2 = .str i ∧ mg q.1 = some (.str i t) := fun n q e => by
  cases n with
  | zero =>
    simp only [List.getElem?_cons_zero, Option.some.injEq] at e
    subst e
    exact .inr ⟨i, t, rfl, h⟩
  | succ n => exact r n q (by simpa using e)
/-- the law's own beginning: its script -/
theorem script_ok {H : Hp} {a : Addr} {ns : List Int} (hO : ∀ b xs, Rd H b (.lst xs) → xs.length ≤ sizeLine) (hS : SqL K H a (ns.map V.int)) {F : Fu} {b : Bool} (hF : F [(false, .list (ns.map .int))] = some (b, .bool true)) :
    spD K (fun as r => F as = some r) [.ref a] H (fun v _ => v = .bl true) fun _ _ _ => False := by
  have dpi : ∀ ns : List Int, DpAll K H (ns.map V.int) (ns.map PyData.int) := fun ns => by
    induction ns with
    | nil => exact .nil
    | cons n ns ih => exact .cons (.int n) ih
  refine ⟨⟨tupO H, H, H⟩, [(false, .list (ns.map .int))], (b, .bool true), rfl, ⟨fun c u q => (tupO_some q).1, .refl _, fun c xs q => tupO_tup q, fun c ob xs q => tupO_frz q, hO⟩, hF, ⟨.lst hS (dpi ns), trivial⟩, fun v T' s q => ?_⟩
  have q : Dp K (T'.lv b) v (.bool true) := q
  cases q
  rfl
/-- the law's promise -/
def spB (K : PySem.W.Frag) (R : List Ar → Ar → Prop) : Sp := fun vs H Q E => vs.length = 1 ∧ ((∀ b xs, Rd H b (.lst xs) → xs.length ≤ sizeLine) → spD K R vs H Q E)
theorem law_ok {x qual : Str} {st : Stmt} {f : Addr} {fd : FuncData} {N : List Str} {p : Str} {k : Nat} {C : Cf} {body : List CS} (Fn : Fun K x qual st f fd) (Sc : FnScope N [p] (defScope st)) (nk : noSq K = true) (bl : ∀ x ∈ bltNames, mg (Str.ofString x) = none)
    (hc : chkB ⟨N, defScope st, fun _ => true, C⟩ body (defBody st) = true) (ct : Cty P w K mg base C k) : FnOk P w K mg base CX0 (k + 1) f fd [p] (spB K (fun as r => run C 1 N.length body as = some r)) := by
  refine Fn.ok Sc (fun vs H Q E h => h.1) fun cdv A outer s H vs Q E hr h => ?_
  have ok : SOk (fm0 P w K mg base N qual (defScope st) f k Sc.nd cdv A outer s H E hr) ⟨N, defScope st, fun _ => true, C⟩ := ⟨rfl, fun _ => rfl, fun _ _ _ => rfl, bl, ct.gl, ct.fs⟩
  refine ⟨fun D σ H' => (∀ b xs, Rd H' b (.lst xs) → xs.length ≤ sizeLine) → wpB (fm0 P w K mg base N qual (defScope st) f k Sc.nd cdv A outer s H E hr) (defBody st) D σ H', ⟨fun pins z σ H' D I q => q (fun b xs r => (r.ok I.hok).1) () pins z I⟩, fun hO => ?_⟩
  obtain ⟨T, as, r, rfl, okT, hR, hA, hQ⟩ := h.2 hO
  have hl := run_len hR
  unfold run at hR
  rw [if_pos hl] at hR
  obtain ⟨o, h1, h2⟩ := bind_of hR
  refine sndB body ok nk hc h1 T T _ (env0_ok okT N hA) _ ?_
  cases o with
  | rt b d => cases h2; exact fun T' v s' q' => hQ v T' s' q'
  | nx Γ => cases h2; exact fun T' σ ok' _ => hQ .non T' ok'.st (by exact .non)
  | bk Γ => cases h2
  | ct Γ => cases h2
end
end T2
end
section
set_option Elab.async false
set_option linter.all false
set_option autoImplicit false
set_option maxRecDepth 100000
namespace T2
open PySem PySem.Spec L2
open PySem.W (alike alikeAll dataLt dataLe)
open Py (enc)

abbrev Row := T3 Ky (List Str) (List Ky)
/-! ### data of types -/
theorem enc_int (i : Int) : (enc i : PyData) = .int i := rfl
theorem enc_bool (i : Bool) : (enc i : PyData) = .bool i := rfl
theorem enc_str (i : Str) : (enc i : PyData) = .str i := rfl
theorem enc_ky (k : Ky) : (enc k : PyData) = .tuple [.str k.1, .int k.2] := rfl
theorem enc_row (r : Row) : (enc r : PyData) = .tuple [enc r.a, enc r.b, enc r.c] := rfl
/-- whether it is in it -/
def isIn {α : Type} [DecidableEq α] (x : α) (xs : List α) : Bool := decide (x ∈ xs)
theorem isIn_iff {α : Type} [DecidableEq α] {x : α} {xs : List α} : isIn x xs = true ↔ x ∈ xs := by unfold isIn; exact decide_eq_true_iff
theorem isIn_no {α : Type} [DecidableEq α] {x : α} {xs : List α} : isIn x xs = false ↔ x ∉ xs := by unfold isIn; exact decide_eq_false_iff_not
section
variable {α : Type} [Py α]
theorem enc_list (xs : List α) : (enc xs : PyData) = .list (xs.map enc) := rfl
theorem fold_list (xs : List α) : PyData.list (xs.map enc) = enc xs := rfl
theorem imm_list (xs : List α) : imm (enc xs) = false := rfl
theorem imm_of [PyI α] (x : α) : imm (enc x) = true := PyI.im x
theorem immA_of [PyI α] (xs : List α) : immA (xs.map enc) = true := by
  induction xs with
  | nil => rfl
  | cons x xs ih => rw [List.map_cons, immA, PyI.im, ih]; rfl
/-! ### operations on data of types -/
theorem eqOk_enc [DecidableEq α] (x y : α) (hd : Py.dp α ≤ 60) : eqOk (enc x) (enc y) = true := by
  unfold eqOk
  rw [Py.alk, Bool.true_and, decide_eq_true_eq]
  exact Nat.le_trans (Py.dep x) hd
theorem eq_enc [DecidableEq α] (x y : α) (hd : Py.dp α ≤ 60 := by decide) : cmpD .eq (enc x) (enc y) = some (decide (x = y)) := by
  show (if eqOk (enc x) (enc y) = true then some (PyData.eqv (enc x) (enc y)) else none) = _
  rw [if_pos (eqOk_enc x y hd), Py.eqv]
theorem ne_enc [DecidableEq α] (x y : α) (hd : Py.dp α ≤ 60 := by decide) : cmpD .ne (enc x) (enc y) = some (!decide (x = y)) := by
  show (if eqOk (enc x) (enc y) = true then some (!PyData.eqv (enc x) (enc y)) else none) = _
  rw [if_pos (eqOk_enc x y hd), Py.eqv]
theorem in_enc [DecidableEq α] (x : α) (xs : List α) (hd : Py.dp α ≤ 60 := by decide) : cmpD .isIn (enc x) (enc xs) = some (isIn x xs) := by
  show inD (enc x) (.list (xs.map enc)) = _
  unfold inD
  have h1 : ((xs.map enc).all fun z => alike z (enc x)) = true := by
    rw [List.all_eq_true]
    intro z hz
    obtain ⟨y, _, rfl⟩ := List.mem_map.mp hz
    exact Py.alk y x
  have h2 : (enc x : PyData).depth ≤ 60 := Nat.le_trans (Py.dep x) hd
  simp only [h1, h2, decide_true, Bool.and_true, if_true]
  have : ∀ ys : List α, ((ys.map enc).any fun z => PyData.eqv z (enc x)) = decide (x ∈ ys) := fun ys => by
    induction ys with
    | nil => simp
    | cons y ys ih =>
      rw [List.map_cons, List.any_cons, ih, Py.eqv]
      by_cases h : y = x
      · subst h; simp
      · have h' : ¬ x = y := fun z => h z.symm
        simp [h, h']
  rw [this]; rfl
theorem nin_enc [DecidableEq α] (x : α) (xs : List α) (hd : Py.dp α ≤ 60 := by decide) : cmpD .notIn (enc x) (enc xs) = some (!isIn x xs) := by
  have := in_enc x xs hd
  show (inD (enc x) (enc xs)).map (!·) = _
  rw [show inD (enc x) (enc xs) = cmpD .isIn (enc x) (enc xs) from rfl, this]; rfl
theorem len_enc (b : Bool) (xs : List α) : bltD .len [(b, enc xs)] = some (.d true (.int xs.length)) := by
  show some (En.d true (.int (xs.map enc).length)) = _
  rw [List.length_map]
theorem isi_list (xs : List α) : isiD (enc xs) .list = true := rfl
theorem it_enc (b : Bool) (xs : List α) : itD .seq [(b, enc xs)] = some (b, xs.map enc) := rfl
theorem ix_enc (b : Bool) (xs : List α) (i : Int) : ixD (b, enc xs) i = (atI xs i).map fun x => mkD b (enc x) := by
  show (atI (xs.map enc) i).map (mkD b) = _
  unfold atI
  rw [List.length_map]
  cases ixN xs.length i with
  | none => rfl
  | some j => simp [Function.comp_def]
theorem ix_nat (b : Bool) (xs : List α) (j : Nat) {x : α} (h : xs[j]? = some x) : ixD (b, enc xs) (j : Int) = some (mkD b (enc x)) := by
  rw [ix_enc]
  have : atI xs (j : Int) = some x := by
    unfold atI ixN
    have := (List.getElem?_eq_some_iff.mp h).1
    rw [if_pos (Int.natCast_nonneg j), if_pos (by omega)]
    simpa using h
  rw [this]; rfl
theorem list_enc (b : Bool) (xs : List α) : bltD .list [(b, enc xs)] = some (mkO b (xs.map enc)) := rfl
theorem cat_enc (b c : Bool) (xs ys : List α) (h : xs.length + ys.length ≤ sizeLine) : binD .add (b, enc xs) (c, enc ys) = some (mkO (b && c) ((xs ++ ys).map enc)) := by
  show (if (xs.map enc).length + (ys.map enc).length ≤ sizeLine then some (mkO (b && c) (xs.map enc ++ ys.map enc)) else none) = _
  rw [List.length_map, List.length_map, if_pos h, List.map_append]
theorem ksrt_enc (xs : List α) : srtD (xs.map enc) = (srt xs).map enc := by
  unfold srtD srt
  exact (List.map_mergeSort (r := fun a b : α => !ltb b a) (s := dataLe false id) (f := enc) (l := xs) fun a _ b _ => rfl).symm
end
theorem ix_k0 (b : Bool) (k : Ky) : ixD (b, enc k) 0 = some (.d true (.str k.1)) := by cases b <;> rfl
theorem ix_k1 (b : Bool) (k : Ky) : ixD (b, enc k) 1 = some (.d true (.int k.2)) := by cases b <;> rfl
theorem ix_r0 (b : Bool) (r : Row) : ixD (b, enc r) 0 = some (.d true (enc r.a)) := by cases b <;> rfl
theorem ix_r1 (b : Bool) (r : Row) : ixD (b, enc r) 1 = some (.d b (enc r.b)) := by cases b <;> rfl
theorem ix_r2 (b : Bool) (r : Row) : ixD (b, enc r) 2 = some (.d b (enc r.c)) := by cases b <;> rfl
theorem tg_r (b : Bool) (Γ : List En) (i j k : Nat) (r : Row) : tgt (.tp [i, j, k]) Γ b (enc r) = some (((Γ.set i (.d b (enc r.a))).set j (.d b (enc r.b))).set k (.d b (enc r.c))) := rfl
theorem tg_nm (i : Nat) (Γ : List En) (b : Bool) (d : PyData) : tgt (.nm i) Γ b d = some (Γ.set i (.d b d)) := rfl
theorem tg_2 {α β : Type} [Py α] [Py β] (b : Bool) (Γ : List En) (i j : Nat) (x : α × β) : tgt (.tp [i, j]) Γ b (enc x) = some ((Γ.set i (.d b (enc x.1))).set j (.d b (enc x.2))) := rfl
theorem tg_3 {α β γ : Type} [Py α] [Py β] [Py γ] (b : Bool) (Γ : List En) (i j k : Nat) (x : T3 α β γ) : tgt (.tp [i, j, k]) Γ b (enc x) = some (((Γ.set i (.d b (enc x.a))).set j (.d b (enc x.b))).set k (.d b (enc x.c))) := rfl
theorem isi_ky (k : Ky) : isiD (enc k) .tuple = true := rfl
theorem isi_row (k : Row) : isiD (enc k) .tuple = true := rfl
theorem isi_str (k : Str) : isiD (.str k) .str = true := rfl
theorem len_ky (b : Bool) (k : Ky) : bltD .len [(b, enc k)] = some (.d true (.int 2)) := rfl
theorem len_row (b : Bool) (k : Row) : bltD .len [(b, enc k)] = some (.d true (.int 3)) := rfl
theorem lv_true (d : PyData) : lv1 (true, d) = true := rfl
theorem lv_list {α : Type} [Py α] (b : Bool) (xs : List α) : lv1 (b, enc xs) = b := by cases b <;> rfl
theorem lv_bool (b c : Bool) : lv1 (b, .bool c) = true := by cases b <;> rfl
theorem lv_int (b : Bool) (c : Int) : lv1 (b, .int c) = true := by cases b <;> rfl
theorem lv_none (b : Bool) : lv1 (b, .none) = true := by cases b <;> rfl
theorem lv_str (b : Bool) (c : Str) : lv1 (b, .str c) = true := by cases b <;> rfl
theorem lv_imm {α : Type} [Py α] [PyI α] (b : Bool) (x : α) : lv1 (b, enc x) = true := by rw [lv1, imm_of, Bool.or_true]
theorem eq_int (i j : Int) : cmpD .eq (.int i) (.int j) = some (decide (i = j)) := eq_enc i j
theorem ne_int (i j : Int) : cmpD .ne (.int i) (.int j) = some (!decide (i = j)) := ne_enc i j
theorem eq_str (i j : Str) : cmpD .eq (.str i) (.str j) = some (decide (i = j)) := eq_enc i j
theorem ne_str (i j : Str) : cmpD .ne (.str i) (.str j) = some (!decide (i = j)) := ne_enc i j
theorem lt_int (i j : Int) : cmpD .lt (.int i) (.int j) = some (decide (i < j)) := rfl
theorem le_int (i j : Int) : cmpD .le (.int i) (.int j) = some (decide (i ≤ j)) := rfl
theorem gt_int (i j : Int) : cmpD .gt (.int i) (.int j) = some (decide (j < i)) := rfl
theorem ge_int (i j : Int) : cmpD .ge (.int i) (.int j) = some (decide (j ≤ i)) := rfl
theorem in_str (x : Str) (xs : List Str) : cmpD .isIn (.str x) (enc xs) = some (isIn x xs) := in_enc x xs
theorem nin_str (x : Str) (xs : List Str) : cmpD .notIn (.str x) (enc xs) = some (!isIn x xs) := nin_enc x xs
theorem in_int (x : Int) (xs : List Int) : cmpD .isIn (.int x) (enc xs) = some (isIn x xs) := in_enc x xs
theorem nin_int (x : Int) (xs : List Int) : cmpD .notIn (.int x) (enc xs) = some (!isIn x xs) := nin_enc x xs
/-- a text in another -/
def inS (x y : Str) : Bool := !(Builtin.Str.occurrences y x 0 y.length 1).isEmpty
theorem in_strs (x y : Str) : cmpD .isIn (.str x) (.str y) = some (inS x y) := rfl
def chars (z : Str) : List Str := z.cps.toList.map fun c => ⟨#[c]⟩
theorem it_chars (b : Bool) (z : Str) (h : z.length ≤ sizeLine) : itD .seq [(b, .str z)] = some (true, (chars z).map enc) := by
  show (if z.length ≤ sizeLine then some (true, signs z) else none) = _
  rw [if_pos h]
  unfold signs chars
  rw [List.map_map]; rfl
theorem len_str (b : Bool) (z : Str) (h : z.length ≤ sizeLine) : bltD .len [(b, .str z)] = some (.d true (.int z.length)) := by
  show (if z.length ≤ sizeLine then some (En.d true (.int z.length)) else none) = _
  rw [if_pos h]
section
variable {α β : Type} [Py α] [Py β]
theorem it_zip_enc (b c : Bool) (xs : List α) (ys : List β) : itD .zip [(b, enc xs), (c, enc ys)] = some (b && c, (xs.zip ys).map enc) := by
  show some (b && c, zipD (xs.map enc) (ys.map enc)) = _
  congr 2
  unfold zipD
  rw [List.zipWith_map, List.zip, List.map_zipWith]
  rfl
def enumT (xs : List α) : List (Int × α) := xs.mapIdx fun i x => ((i : Int), x)
theorem it_enum_enc (b : Bool) (xs : List α) : itD .enu [(b, enc xs)] = some (b, (enumT xs).map enc) := by
  show some (b, enumD (xs.map enc)) = _
  congr 2
  unfold enumD enumT
  apply List.ext_getElem?
  intro i
  simp only [List.getElem?_mapIdx, List.getElem?_map, Option.map_map]
  rfl
theorem it_rng1 (b : Bool) (j : Int) (h : j ≤ 16777216) (h' : -(2 ^ 62) ≤ j) : itD .rng [(b, .int j)] = some (true, (rngL 0 1 j.toNat).map enc) := by
  show (if j ≤ 16777216 ∧ -(2 ^ 62) ≤ j then some (true, (rngL 0 1 j.toNat).map PyData.int) else none) = _
  rw [if_pos ⟨h, h'⟩]; rfl
theorem it_rng2 (b c : Bool) (i j : Int) (h : j - i ≤ 16777216) (h1 : -(2 ^ 62) ≤ i) (h2 : i < 2 ^ 62) (h3 : -(2 ^ 62) ≤ j) (h4 : j < 2 ^ 62) : itD .rng [(b, .int i), (c, .int j)] = some (true, (rngL i 1 (j - i).toNat).map enc) := by
  show (if j - i ≤ 16777216 ∧ (-(2 ^ 62) ≤ i ∧ i < 2 ^ 62) ∧ -(2 ^ 62) ≤ j ∧ j < 2 ^ 62 then some (true, (rngL i 1 (j - i).toNat).map PyData.int) else none) = _
  rw [if_pos ⟨h, ⟨h1, h2⟩, h3, h4⟩]; rfl
theorem cut_map {γ δ : Type} (f : γ → δ) (xs : List γ) (lo hi : Option Int) : cutL (xs.map f) lo hi = (cutL xs lo hi).map f := by
  unfold cutL
  rw [List.length_map, List.map_take, List.map_drop]
theorem sl_enc (b : Bool) (xs : List α) (lo hi : Option Int) : slD (b, enc xs) lo hi = some (mkO b ((cutL xs lo hi).map enc)) := by
  show some (mkO b (cutL (xs.map enc) lo hi)) = _
  rw [cut_map]
theorem cut_from {γ : Type} (xs : List γ) (n : Nat) : cutL xs (some (n : Int)) none = xs.drop n := by
  unfold cutL
  rw [HT.sIx_none, HT.sIx_nat]
  rcases Nat.le_total n xs.length with h | h
  · rw [Nat.min_eq_left h, List.take_of_length_le (by rw [List.length_drop]; exact Nat.le_refl _)]
  · rw [Nat.min_eq_right h, List.drop_length, List.drop_eq_nil_of_le h]; simp
theorem cut_to {γ : Type} (xs : List γ) (n : Nat) : cutL xs none (some (n : Int)) = xs.take n := by
  unfold cutL
  rw [HT.sIx_none, HT.sIx_nat]
  rw [List.drop_zero, Nat.sub_zero]
  rcases Nat.le_total n xs.length with h | h
  · rw [Nat.min_eq_left h]
  · rw [Nat.min_eq_right h, List.take_length, List.take_of_length_le h]
theorem slP_int (i : Int) (y : Option Ar) : slP (.lit (.int i)) y = (y.bind fun y => asI y.2).map some := rfl
theorem slP_none (y : Option Ar) : slP (.lit .none) y = some none := rfl
theorem val_mkO (b : Bool) (xs : List α) : (mkO b (xs.map enc)).val = some (b || immA (xs.map enc), enc xs) := rfl
theorem mkO_imm [PyI α] (b : Bool) (xs : List α) : mkO b (xs.map enc) = .o true (xs.map enc) := by unfold mkO; rw [immA_of, Bool.or_true]
theorem mkD_imm [PyI α] (b : Bool) (x : α) : mkD b (enc x) = .d true (enc x) := by unfold mkD; rw [imm_of, Bool.or_true]
theorem mkD_list (b : Bool) (x : List α) : mkD b (enc x) = .d b (enc x) := by unfold mkD; rw [imm_list, Bool.or_false]
end
theorem bools_enc (bs : List Bool) : bools (bs.map enc) = some bs := by
  induction bs with
  | nil => rfl
  | cons b bs ih => rw [List.map_cons, enc_bool, bools]; simp only [asB, Option.bind_some, ih, Option.map_some]
theorem all_enc (b : Bool) (bs : List Bool) : bltD .all [(b, enc bs)] = some (.d true (.bool (bs.all id))) := by
  show (bools (bs.map enc)).map (fun bs => En.d true (.bool (bs.all id))) = _
  rw [bools_enc]; rfl
theorem any_benc (b : Bool) (bs : List Bool) : bltD .any [(b, enc bs)] = some (.d true (.bool (bs.any id))) := by
  show (bools (bs.map enc)).map (fun bs => En.d true (.bool (bs.any id))) = _
  rw [bools_enc]; rfl
theorem lt_enc {α : Type} [Py α] [PyN α] (x y : α) (hd : Py.dp α ≤ 60 := by decide) : cmpD .lt (enc x) (enc y) = some (ltb x y) := by
  show ltD (enc x) (enc y) = _
  have ok : (eqOk (enc x) (enc y) && !isNon (enc x)) = true := by
    rw [Bool.and_eq_true]
    refine ⟨?_, ?_⟩
    · unfold eqOk
      rw [Py.alk, Bool.true_and, decide_eq_true_eq]
      exact Nat.le_trans (Py.dep x) hd
    · have := PyN.nn x
      cases q : (enc x : PyData) <;> first | rfl | (exact absurd q this)
  unfold ltD
  split
  · rename_i i j h1 h2
    unfold ltb
    rw [h1, h2]
    exact congrArg some (PySem.W.dataLt_int i j).symm
  · rw [if_pos ok]; rfl
theorem sz0 : (0 ≤ sizeLine) = True := eq_true (by decide)
theorem sz1 : (1 ≤ sizeLine) = True := eq_true (by decide)
theorem sz2 : (2 ≤ sizeLine) = True := eq_true (by decide)
theorem sz3 : (3 ≤ sizeLine) = True := eq_true (by decide)
theorem sz5 : (5 ≤ sizeLine) = True := eq_true (by decide)
theorem sz8 : (8 ≤ sizeLine) = True := eq_true (by decide)
theorem sz4 : (4 ≤ sizeLine) = True := eq_true (by decide)
theorem sz16 : (16 ≤ sizeLine) = True := eq_true (by decide)
theorem fold_row (r : Row) : PyData.tuple [enc r.a, enc r.b, enc r.c] = enc r := rfl
theorem fold_ky (x : Str) (i : Int) : PyData.tuple [.str x, .int i] = enc ((x, i) : Ky) := rfl
theorem ix_0 {α : Type} [Py α] (b : Bool) (x : α) (xs : List α) : ixD (b, enc (x :: xs)) 0 = some (mkD b (enc x)) := ix_nat b (x :: xs) 0 rfl
theorem mkD_row (b : Bool) (r : Row) : mkD b (enc r) = .d b (enc r) := by cases b <;> rfl
theorem val_d (b : Bool) (x : PyData) : En.val (.d b x) = some (b, x) := rfl
theorem val_o (b : Bool) (x : List PyData) : En.val (.o b x) = some (b, .list x) := rfl
theorem tr_b (b c : Bool) : En.tr (.d b (.bool c)) = some c := rfl
theorem tr_l {α : Type} [Py α] (b : Bool) (xs : List α) : En.tr (.d b (enc xs)) = some (!xs.isEmpty) := by
  show some (!(xs.map enc).isEmpty) = _
  cases xs <;> rfl
/-! ### bools that are not known -/
theorem cond_bind {α β : Type} (c : Bool) (x y : Option α) (f : α → Option β) : (cond c x y).bind f = cond c (x.bind f) (y.bind f) := by cases c <;> rfl
theorem cond_omap {α β : Type} (c : Bool) (x y : Option α) (f : α → β) : (cond c x y).map f = cond c (x.map f) (y.map f) := by cases c <;> rfl
theorem and_b (l m c c' : Bool) : andD (l, .bool c) (some (m, .bool c')) = some (.d true (.bool (c && c'))) := by cases c <;> rfl
theorem or_b (l m c c' : Bool) : orD (l, .bool c) (some (.d m (.bool c'))) = some (.d true (.bool (c || c'))) := by cases c <;> rfl
theorem chn_b (k k' : Bool) : cond k (some (En.d true (.bool k'))) (some (En.d true (.bool false))) = some (En.d true (.bool (k && k'))) := by cases k <;> rfl
theorem cond_res (c : Bool) (b d : Ar) : cond c (some b) (some d) = some (cond c b d) := by cases c <;> rfl
theorem cond_arb (c x y : Bool) : cond c ((true, .bool x) : Ar) (true, .bool y) = (true, .bool (cond c x y)) := by cases c <;> rfl
theorem thn_nx (Γ : List En) (f : List En → Option Out) : Out.thn (.nx Γ) f = f Γ := rfl
theorem thn_rt (b : Bool) (d : PyData) (f : List En → Option Out) : Out.thn (.rt b d) f = some (.rt b d) := rfl
theorem res_rt (b : Bool) (d : PyData) : Out.res (.rt b d) = some (b, d) := rfl
theorem res_nx (Γ : List En) : Out.res (.nx Γ) = some (true, .none) := rfl
/-! ### loops -/
/-- a comprehension over a typed list -/
theorem cpr_map {α : Type} [Py α] {f : PyData → Option (Option Ar)} {xs : List α} (g : α → Ar) (h : ∀ x ∈ xs, f (enc x) = some (some (g x))) : cpr f (xs.map enc) = some (xs.map g) := by
  induction xs with
  | nil => rfl
  | cons x xs ih =>
    simp only [List.map_cons, cpr]
    rw [h x List.mem_cons_self, ih fun y hy => h y (List.mem_cons_of_mem _ hy)]
    rfl
theorem cpr_filter {α : Type} [Py α] {f : PyData → Option (Option Ar)} {xs : List α} (c : α → Bool) (g : α → Ar) (h : ∀ x ∈ xs, f (enc x) = some (cond (c x) (some (g x)) none)) : cpr f (xs.map enc) = some ((xs.filter c).map g) := by
  induction xs with
  | nil => rfl
  | cons x xs ih =>
    simp only [List.map_cons, cpr]
    rw [h x List.mem_cons_self, ih fun y hy => h y (List.mem_cons_of_mem _ hy)]
    cases q : c x with
    | true => simp [List.filter_cons, q]
    | false => simp [List.filter_cons, q]
theorem cpr_ds {f : PyData → Option (Option Ar)} {ds : List PyData} (g : PyData → Ar) (h : ∀ x ∈ ds, f x = some (some (g x))) : cpr f ds = some (ds.map g) := by
  induction ds with
  | nil => rfl
  | cons x xs ih =>
    simp only [List.map_cons, cpr]
    rw [h x List.mem_cons_self, ih fun y hy => h y (List.mem_cons_of_mem _ hy)]
    rfl
/-- .. as a function of what is typed -/
def cprT {α : Type} (f : α → Option (Option Ar)) : List α → Option (List Ar)
  | [] => some []
  | x :: xs => (f x).bind fun r => (cprT f xs).map fun rs => match r with
    | some a => a :: rs
    | none => rs
theorem cpr_T {α : Type} [Py α] (f : PyData → Option (Option Ar)) (xs : List α) : cpr f (xs.map enc) = cprT (fun x => f (enc x)) xs := by
  induction xs with
  | nil => rfl
  | cons x xs ih =>
    simp only [List.map_cons, cpr, cprT, ih] <;> rfl
theorem cprT_map {α : Type} (g : α → Ar) (xs : List α) : cprT (fun x => some (some (g x))) xs = some (xs.map g) := by
  induction xs with
  | nil => rfl
  | cons x xs ih => simp only [cprT, ih, Option.bind_some, Option.map_some, List.map_cons]
theorem cprT_filter {α : Type} (c : α → Bool) (g : α → Ar) (xs : List α) : cprT (fun x => cond (c x) (some (some (g x))) (some none)) xs = some ((xs.filter c).map g) := by
  induction xs with
  | nil => rfl
  | cons x xs ih =>
    simp only [cprT, ih, Option.bind_some, Option.map_some]
    cases q : c x with
    | true => simp [List.filter_cons, q]
    | false => simp [List.filter_cons, q]
theorem mkL_map {α β : Type} [Py β] [PyI β] (xs : List α) (l : α → Bool) (g : α → β) : mkL (xs.map fun x => (l x, (enc (g x) : PyData))) = .o true ((xs.map g).map enc) := by
  unfold mkL lvs
  congr 1
  · rw [List.all_eq_true]
    intro a ha
    obtain ⟨x, _, rfl⟩ := List.mem_map.mp ha
    simp [lv1, imm_of]
  · rw [List.map_map, List.map_map]; rfl
theorem cprT_on {α : Type} {f : α → Option (Option Ar)} {xs : List α} (g : α → Ar) (h : ∀ x ∈ xs, f x = some (some (g x))) : cprT f xs = some (xs.map g) := by
  induction xs with
  | nil => rfl
  | cons x xs ih =>
    simp only [cprT, h x List.mem_cons_self, ih fun y hy => h y (List.mem_cons_of_mem _ hy), Option.bind_some, Option.map_some, List.map_cons]
theorem cprT_fon {α : Type} {f : α → Option (Option Ar)} {xs : List α} (c : α → Bool) (g : α → Ar) (h : ∀ x ∈ xs, f x = cond (c x) (some (some (g x))) (some none)) : cprT f xs = some ((xs.filter c).map g) := by
  induction xs with
  | nil => rfl
  | cons x xs ih =>
    simp only [cprT, h x List.mem_cons_self, ih fun y hy => h y (List.mem_cons_of_mem _ hy), Option.bind_some, Option.map_some, List.map_cons]
    cases q : c x with
    | true => simp [List.filter_cons, q]
    | false => simp [List.filter_cons, q]
theorem mkL_bool {α : Type} (xs : List α) (l : α → Bool) (g : α → Bool) : mkL (xs.map fun x => (l x, PyData.bool (g x))) = .o true ((xs.map g).map enc) := mkL_map xs l g
theorem mkL_str {α : Type} (xs : List α) (l : α → Bool) (g : α → Str) : mkL (xs.map fun x => (l x, PyData.str (g x))) = .o true ((xs.map g).map enc) := mkL_map xs l g
theorem mkL_int {α : Type} (xs : List α) (l : α → Bool) (g : α → Int) : mkL (xs.map fun x => (l x, PyData.int (g x))) = .o true ((xs.map g).map enc) := mkL_map xs l g
/-- new data of a type without lists -/
theorem mkL_imm {α β : Type} [Py β] [PyI β] (xs : List α) (l : α → Bool) (g : α → β) : mkL (xs.map fun x => (l x, enc (g x))) = .o true ((xs.map g).map enc) := by
  unfold mkL lvs
  congr 1
  · rw [List.all_eq_true]
    intro a ha
    obtain ⟨x, _, rfl⟩ := List.mem_map.mp ha
    simp [lv1, imm_of]
  · rw [List.map_map, List.map_map]; rfl
theorem mkL_lv {α β : Type} [Py β] (xs : List α) (b : Bool) (g : α → β) : ∃ c, (b = true → c = true) ∧ mkL (xs.map fun x => (b, enc (g x))) = .o c ((xs.map g).map enc) := by
  refine ⟨lvs (xs.map fun x => (b, (enc (g x) : PyData))), fun h => ?_, ?_⟩
  · subst h
    unfold lvs
    rw [List.all_eq_true]
    intro a ha
    obtain ⟨x, _, rfl⟩ := List.mem_map.mp ha
    rfl
  · unfold mkL
    rw [List.map_map, List.map_map]; rfl
theorem lop_ind {α : Type} {f : List En → PyData → Option Out} {e : α → PyData} (P : List α → List En → Prop) : ∀ (xs done : List α) (Γ : List En), P done Γ → (∀ d x r Γ, done ++ xs = d ++ x :: r → P d Γ → ∃ Γ', f Γ (e x) = some (.nx Γ') ∧ P (d ++ [x]) Γ') → ∃ Γ', lop f Γ (xs.map e) = some (.nx Γ') ∧ P (done ++ xs) Γ'
  | [], done, Γ, h, _ => ⟨Γ, rfl, by rw [List.append_nil]; exact h⟩
  | x :: xs, done, Γ, h, st => by
    obtain ⟨Γ1, h1, h2⟩ := st done x xs Γ rfl h
    obtain ⟨Γ2, h3, h4⟩ := lop_ind P xs (done ++ [x]) Γ1 h2 fun d y r Γ' e' hp => st d y r Γ' (by rw [← e']; simp) hp
    refine ⟨Γ2, ?_, by simpa using h4⟩
    simp only [List.map_cons, lop, h1, Option.bind_some]
    exact h3
/-- .. from the beginning -/
theorem lop_all {α : Type} {f : List En → PyData → Option Out} {e : α → PyData} (P : List α → List En → Prop) (xs : List α) (Γ : List En) (h : P [] Γ) (st : ∀ d x r Γ, xs = d ++ x :: r → P d Γ → ∃ Γ', f Γ (e x) = some (.nx Γ') ∧ P (d ++ [x]) Γ') : ∃ Γ', lop f Γ (xs.map e) = some (.nx Γ') ∧ P xs Γ' := lop_ind P xs [] Γ h st
theorem lop_b {α β : Type} {f : List En → PyData → Option Out} {e : α → PyData} {xs : List α} {Γ : List En} {k : Out → Option β} {r : Option β} (P : List α → List En → Prop) (h : P [] Γ) (st : ∀ d x r Γ, xs = d ++ x :: r → P d Γ → ∃ Γ', f Γ (e x) = some (.nx Γ') ∧ P (d ++ [x]) Γ') (fin : ∀ Γ', P xs Γ' → k (.nx Γ') = r) : (lop f Γ (xs.map e)).bind k = r := by
  obtain ⟨Γ', h1, h2⟩ := lop_all P xs Γ h st
  rw [h1]
  exact fin Γ' h2
theorem lop_bb {α β : Type} {f : List En → PyData → Option Out} {e : α → PyData} {xs : List α} {Γ : List En} {k1 : Out → Option Out} {k : Out → Option β} {r : Option β} (P : List α → List En → Prop) (h : P [] Γ) (st : ∀ d x r Γ, xs = d ++ x :: r → P d Γ → ∃ Γ', f Γ (e x) = some (.nx Γ') ∧ P (d ++ [x]) Γ') (fin : ∀ Γ', P xs Γ' → (k1 (.nx Γ')).bind k = r) : ((lop f Γ (xs.map e)).bind k1).bind k = r := by
  obtain ⟨Γ', h1, h2⟩ := lop_all P xs Γ h st
  rw [h1]
  exact fin Γ' h2
end T2
end
section
set_option Elab.async false
set_option linter.all false
set_option autoImplicit false
set_option maxRecDepth 100000
namespace T2.Q
open PySem PySem.Spec L2
open PyProof.Rows hiding St
open T2
/-- text _is_whole -/
def n_is_whole : List Str := [(Str.ofString "thing")]
def b_is_whole : List CS := [.ret (.and (.isi (.var 0) .int) (.one (.not (.isi (.var 0) .bool))))]
def c_is_whole : Cf := ⟨[], []⟩
def f_is_whole : Fu := run c_is_whole 1 1 b_is_whole
/-- text _is_word -/
def n_is_word : List Str := [(Str.ofString "thing"), (Str.ofString "least"), (Str.ofString "most"), (Str.ofString "letter")]
def b_is_word : List CS := [.ret (.and (.isi (.var 0) .str) (.and (.chn .le .le (.var 1) (.blt .len [(.var 0)]) (.var 2)) (.one (.blt .all [(.lc [((Str.ofString "letter"), 3)] .seq [(.var 0)] (.nm 3) (.cmp .isIn (.var 3) (.glb 0)))]))))]
def c_is_word : Cf := ⟨[((Str.ofString "LETTERS"), .str (Str.ofString "abcdefghijklmnopqrstuvwxyz"))], []⟩
def f_is_word : Fu := run c_is_word 3 4 b_is_word
/-- text _is_office -/
def n_is_office : List Str := [(Str.ofString "thing")]
def b_is_office : List CS := [.ret (.cal 0 [(.var 0), (.lit (.int 1)), (.glb 0)])]
def c_is_office : Cf := ⟨[((Str.ofString "LONGEST_OFFICE"), .int 8)], [((Str.ofString "is_word"), f_is_word)]⟩
def f_is_office : Fu := run c_is_office 1 1 b_is_office
/-- text _is_key -/
def n_is_key : List Str := [(Str.ofString "thing")]
def b_is_key : List CS := [.ifs (.or (.not (.isi (.var 0) .tuple)) (.or (.cmp .ne (.blt .len [(.var 0)]) (.lit (.int 2))) (.one (.not (.cal 0 [(.ix (.var 0) (.lit (.int 0)))]))))) [.ret (.lit (.bool false))] [],
    .ret (.and (.cal 1 [(.ix (.var 0) (.lit (.int 1)))]) (.one (.chn .le .le (.lit (.int 0)) (.ix (.var 0) (.lit (.int 1))) (.glb 0))))]
def c_is_key : Cf := ⟨[((Str.ofString "GREATEST"), .int 1000000)], [((Str.ofString "is_office"), f_is_office), ((Str.ofString "is_whole"), f_is_whole)]⟩
def f_is_key : Fu := run c_is_key 1 1 b_is_key
/-- text _is_rising -/
def n_is_rising : List Str := [(Str.ofString "things"), (Str.ofString "one"), (Str.ofString "other")]
def b_is_rising : List CS := [.ret (.blt .all [(.lc [((Str.ofString "one"), 1), ((Str.ofString "other"), 2)] .zip [(.var 0), (.sl (.var 0) (.lit (.int 1)) (.lit .none))] (.tp [1, 2]) (.cmp .lt (.var 1) (.var 2)))])]
def c_is_rising : Cf := ⟨[], []⟩
def f_is_rising : Fu := run c_is_rising 1 3 b_is_rising
/-- text _are_keys -/
def n_are_keys : List Str := [(Str.ofString "thing"), (Str.ofString "key")]
def b_are_keys : List CS := [.ret (.and (.isi (.var 0) .list) (.and (.blt .all [(.lc [((Str.ofString "key"), 1)] .seq [(.var 0)] (.nm 1) (.cal 1 [(.var 1)]))]) (.one (.cal 0 [(.var 0)]))))]
def c_are_keys : Cf := ⟨[], [((Str.ofString "is_rising"), f_is_rising), ((Str.ofString "is_key"), f_is_key)]⟩
def f_are_keys : Fu := run c_are_keys 1 2 b_are_keys
/-- text _is_row -/
def n_is_row : List Str := [(Str.ofString "thing"), (Str.ofString "text")]
def b_is_row : List CS := [.ifs (.or (.not (.isi (.var 0) .tuple)) (.or (.cmp .ne (.blt .len [(.var 0)]) (.lit (.int 3))) (.or (.not (.cal 0 [(.ix (.var 0) (.lit (.int 0)))])) (.one (.not (.isi (.ix (.var 0) (.lit (.int 1))) .list)))))) [.ret (.lit (.bool false))] [],
    .ifs (.or (.not (.chn .le .le (.lit (.int 1)) (.blt .len [(.ix (.var 0) (.lit (.int 1)))]) (.glb 1))) (.one (.not (.blt .all [(.lc [((Str.ofString "text"), 1)] .seq [(.ix (.var 0) (.lit (.int 1)))] (.nm 1) (.cal 1 [(.var 1), (.lit (.int 0)), (.glb 0)]))])))) [.ret (.lit (.bool false))] [],
    .ret (.and (.cal 2 [(.ix (.var 0) (.lit (.int 2)))]) (.one (.cmp .le (.blt .len [(.ix (.var 0) (.lit (.int 2)))]) (.glb 2))))]
def c_is_row : Cf := ⟨[((Str.ofString "LONGEST_FIELD"), .int 12), ((Str.ofString "MOST_FIELDS"), .int 3), ((Str.ofString "MOST_POINTINGS"), .int 3)], [((Str.ofString "is_key"), f_is_key), ((Str.ofString "is_word"), f_is_word), ((Str.ofString "are_keys"), f_are_keys)]⟩
def f_is_row : Fu := run c_is_row 1 2 b_is_row
/-- text _is_holding -/
def n_is_holding : List Str := [(Str.ofString "thing"), (Str.ofString "row")]
def b_is_holding : List CS := [.ifs (.or (.not (.isi (.var 0) .list)) (.or (.cmp .gt (.blt .len [(.var 0)]) (.glb 0)) (.one (.not (.blt .all [(.lc [((Str.ofString "row"), 1)] .seq [(.var 0)] (.nm 1) (.cal 0 [(.var 1)]))]))))) [.ret (.lit (.bool false))] [],
    .ifs (.not (.cal 1 [(.lc [((Str.ofString "row"), 1)] .seq [(.var 0)] (.nm 1) (.ix (.var 1) (.lit (.int 0))))])) [.ret (.lit (.bool false))] [],
    .ret (.blt .all [(.lc [((Str.ofString "row"), 1)] .seq [(.var 0)] (.nm 1) (.cmp .eq (.blt .len [(.ix (.var 1) (.lit (.int 1)))]) (.blt .len [(.ix (.ix (.var 0) (.lit (.int 0))) (.lit (.int 1)))])))])]
def c_is_holding : Cf := ⟨[((Str.ofString "MOST_ROWS"), .int 10)], [((Str.ofString "is_row"), f_is_row), ((Str.ofString "is_rising"), f_is_rising)]⟩
def f_is_holding : Fu := run c_is_holding 1 2 b_is_holding
/-- text _check_holding -/
def n_check_holding : List Str := [(Str.ofString "holding")]
def b_check_holding : List CS := [.ifs (.not (.cal 0 [(.var 0)])) [.bad] []]
def c_check_holding : Cf := ⟨[], [((Str.ofString "is_holding"), f_is_holding)]⟩
def f_check_holding : Fu := run c_check_holding 1 1 b_check_holding
/-- text _copied -/
def n_copied : List Str := [(Str.ofString "rows"), (Str.ofString "key"), (Str.ofString "fields"), (Str.ofString "pointings")]
def b_copied : List CS := [.ret (.lc [((Str.ofString "key"), 1), ((Str.ofString "fields"), 2), ((Str.ofString "pointings"), 3)] .seq [(.var 0)] (.tp [1, 2, 3]) (.tup [(.var 1), (.blt .list [(.var 2)]), (.blt .list [(.var 3)])]))]
def c_copied : Cf := ⟨[], []⟩
def f_copied : Fu := run c_copied 1 4 b_copied
/-- text _keys_of -/
def n_keys_of : List Str := [(Str.ofString "holding"), (Str.ofString "row")]
def b_keys_of : List CS := [.ret (.lc [((Str.ofString "row"), 1)] .seq [(.var 0)] (.nm 1) (.ix (.var 1) (.lit (.int 0))))]
def c_keys_of : Cf := ⟨[], []⟩
def f_keys_of : Fu := run c_keys_of 1 2 b_keys_of
/-- text _of_offices -/
def n_of_offices : List Str := [(Str.ofString "holding"), (Str.ofString "offices"), (Str.ofString "one"), (Str.ofString "row")]
def b_of_offices : List CS := [.exp (.cal 0 [(.var 0)]),
    .ifs (.or (.not (.isi (.var 1) .list)) (.or (.not (.blt .all [(.lc [((Str.ofString "one"), 2)] .seq [(.var 1)] (.nm 2) (.cal 2 [(.var 2)]))])) (.one (.not (.cal 1 [(.var 1)]))))) [.bad] [],
    .ret (.cal 3 [(.lcf [((Str.ofString "row"), 3)] .seq [(.var 0)] (.nm 3) (.cmp .isIn (.ix (.ix (.var 3) (.lit (.int 0))) (.lit (.int 0))) (.var 1)) (.var 3))])]
def c_of_offices : Cf := ⟨[], [((Str.ofString "check_holding"), f_check_holding), ((Str.ofString "is_rising"), f_is_rising), ((Str.ofString "is_office"), f_is_office), ((Str.ofString "copied"), f_copied)]⟩
def f_of_offices : Fu := run c_of_offices 2 4 b_of_offices
/-- text _lost -/
def n_lost : List Str := [(Str.ofString "holding"), (Str.ofString "keys"), (Str.ofString "found"), (Str.ofString "row"), (Str.ofString "key")]
def b_lost : List CS := [.exp (.cal 0 [(.var 0)]),
    .par [(1, false, (.cal 1 [(.var 0)])), (2, true, (.lst []))],
    .fo .seq [(.var 0)] (.nm 3) [.ext 2 (.lcf [((Str.ofString "key"), 4)] .seq [(.ix (.var 3) (.lit (.int 2)))] (.nm 4) (.cmp .notIn (.var 4) (.var 1)) (.var 4))],
    .clo 2,
    .ret (.sset (.var 2))]
def c_lost : Cf := ⟨[], [((Str.ofString "check_holding"), f_check_holding), ((Str.ofString "keys_of"), f_keys_of)]⟩
def f_lost : Fu := run c_lost 1 5 b_lost
/-- text _law_cell_at -/
def n_law_cell_at : List Str := [(Str.ofString "_law_script"), (Str.ofString "_law_k")]
def b_law_cell_at : List CS := [.ifs (.cmp .lt (.var 1) (.blt .len [(.var 0)])) [.ret (.ix (.var 0) (.var 1))] [],
    .ret (.lit (.int 0))]
def c_law_cell_at : Cf := ⟨[], []⟩
def f_law_cell_at : Fu := run c_law_cell_at 2 2 b_law_cell_at
/-- text _law_draw -/
def n_law_draw : List Str := [(Str.ofString "_law_cell"), (Str.ofString "_law_k"), (Str.ofString "_law_many"), (Str.ofString "_law_primes")]
def b_law_draw : List CS := [.set 3 (.tup [(.lit (.int 1000003)), (.lit (.int 1000033)), (.lit (.int 1000037)), (.lit (.int 1000039)), (.lit (.int 1000081)), (.lit (.int 1000099)), (.lit (.int 1000117)), (.lit (.int 1000121)), (.lit (.int 1000133)), (.lit (.int 1000151)), (.lit (.int 1000159)), (.lit (.int 1000171)), (.lit (.int 1000183)), (.lit (.int 1000187)), (.lit (.int 1000193)), (.lit (.int 1000199))]),
    .ret (.bin .mod (.bin .mod (.bin .add (.bin .mul (.var 0) (.lit (.int 48271))) (.bin .mul (.var 1) (.lit (.int 69621)))) (.ix (.var 3) (.bin .mod (.var 1) (.lit (.int 16))))) (.var 2))]
def c_law_draw : Cf := ⟨[], []⟩
def f_law_draw : Fu := run c_law_draw 3 4 b_law_draw
/-- text _law_value -/
def n_law_value : List Str := [(Str.ofString "_law_cell"), (Str.ofString "_law_turn"), (Str.ofString "_law_blend")]
def b_law_value : List CS := [.ifs (.cmp .ge (.var 0) (.bin .pow (.lit (.int 10)) (.lit (.int 18)))) [.ret (.bin .shr (.bin .sub (.var 0) (.bin .pow (.lit (.int 10)) (.lit (.int 18)))) (.bin .mul (.lit (.int 3)) (.var 1)))] [],
    .set 2 (.cal 0 [(.bin .mul (.bin .add (.var 0) (.bin .mul (.lit (.int 977)) (.var 1))) (.bin .add (.bin .add (.var 0) (.bin .mul (.lit (.int 31)) (.var 1))) (.lit (.int 5)))), (.bin .add (.bin .mod (.var 1) (.lit (.int 9))) (.lit (.int 1))), (.lit (.int 999983))]),
    .ret (.bin .add (.bin .mul (.var 2) (.lit (.int 1000003))) (.cal 0 [(.bin .add (.bin .mul (.bin .add (.var 0) (.bin .mul (.lit (.int 31)) (.var 1))) (.bin .add (.var 0) (.lit (.int 7)))) (.bin .mul (.lit (.int 977)) (.var 1))), (.bin .add (.bin .mod (.var 1) (.lit (.int 7))) (.lit (.int 2))), (.lit (.int 1000003))]))]
def c_law_value : Cf := ⟨[], [((Str.ofString "_law_draw"), f_law_draw)]⟩
def f_law_value : Fu := run c_law_value 2 3 b_law_value
/-- text _law_key -/
def n_law_key : List Str := [(Str.ofString "_law_number"), (Str.ofString "_law_office")]
def b_law_key : List CS := [.set 1 (.ix (.tup [(.lit (.str (Str.ofString "a"))), (.lit (.str (Str.ofString "ab"))), (.lit (.str (Str.ofString "z"))), (.lit (.str (Str.ofString "officess")))]) (.bin .mod (.var 0) (.lit (.int 4)))),
    .ifs (.cmp .eq (.bin .mod (.bin .fdv (.var 0) (.lit (.int 20))) (.lit (.int 3))) (.lit (.int 0))) [.set 1 (.ix (.lit (.str (Str.ofString "abcdefghijklmnopqrstuvwxyz"))) (.bin .mod (.bin .fdv (.var 0) (.lit (.int 60))) (.lit (.int 26))))] [],
    .ret (.tup [(.var 1), (.ix (.tup [(.lit (.int 0)), (.lit (.int 1)), (.lit (.int 2)), (.lit (.int 10)), (.lit (.int 1000000))]) (.bin .mod (.bin .fdv (.var 0) (.lit (.int 4))) (.lit (.int 5))))])]
def c_law_key : Cf := ⟨[], []⟩
def f_law_key : Fu := run c_law_key 1 2 b_law_key
/-- text _law_row -/
def n_law_row : List Str := [(Str.ofString "_law_script"), (Str.ofString "_law_by"), (Str.ofString "_law_many"), (Str.ofString "_law_wide"), (Str.ofString "_law_kind"), (Str.ofString "_law_fields"), (Str.ofString "_law_pointings"), (Str.ofString "_law_column"), (Str.ofString "_law_number"), (Str.ofString "_law_text"), (Str.ofString "_law_value_here"), (Str.ofString "_law_at")]
def b_law_row : List CS := [.par [(5, true, (.lst [])), (6, true, (.lst []))],
    .fo .rng [(.var 3)] (.nm 7) [.set 8 (.bin .add (.bin .fdv (.cal 0 [(.cal 1 [(.var 0), (.bin .add (.var 1) (.bin .mod (.var 7) (.lit (.int 5))))]), (.bin .add (.bin .add (.lit (.int 3)) (.var 7)) (.bin .mod (.var 2) (.lit (.int 7))))]) (.lit (.int 3))) (.bin .mul (.lit (.int 7)) (.var 2))),
    .set 9 (.ix (.tup [(.lit (.str (Str.ofString ""))), (.lit (.str (Str.ofString "a"))), (.lit (.str (Str.ofString "b"))), (.lit (.str (Str.ofString "ab"))), (.lit (.str (Str.ofString "twelveletter"))), (.lit (.str (Str.ofString "c"))), (.lit (.str (Str.ofString ""))), (.lit (.str (Str.ofString "a")))]) (.bin .mod (.var 8) (.ix (.tup [(.lit (.int 3)), (.lit (.int 8)), (.lit (.int 5))]) (.var 4)))),
    .ifs (.cmp .eq (.bin .mod (.bin .fdv (.var 8) (.lit (.int 8))) (.lit (.int 5))) (.lit (.int 0))) [.set 9 (.bin .add (.ix (.lit (.str (Str.ofString "abcdefghijklmnopqrstuvwxyz"))) (.bin .mod (.bin .fdv (.var 8) (.lit (.int 40))) (.lit (.int 26)))) (.sl (.var 9) (.lit .none) (.lit (.int 3))))] [],
    .app 5 (.var 9)],
    .set 10 (.bin .add (.bin .fdv (.cal 0 [(.cal 1 [(.var 0), (.bin .add (.var 1) (.bin .mod (.var 2) (.lit (.int 5))))]), (.bin .add (.lit (.int 6)) (.bin .mod (.var 2) (.lit (.int 5))))]) (.lit (.int 3))) (.bin .mul (.lit (.int 13)) (.var 2))),
    .fo .rng [(.bin .mod (.var 10) (.lit (.int 4)))] (.nm 11) [.app 6 (.cal 2 [(.bin .fdv (.bin .fdv (.var 10) (.lit (.int 7))) (.bin .add (.bin .mul (.lit (.int 5)) (.var 11)) (.lit (.int 1))))])],
    .clo 5,
    .clo 6,
    .ret (.tup [(.cal 2 [(.bin .add (.bin .fdv (.var 10) (.lit (.int 3))) (.bin .mul (.lit (.int 5)) (.var 2)))]), (.var 5), (.sset (.var 6))])]
def c_law_row : Cf := ⟨[], [((Str.ofString "_law_value"), f_law_value), ((Str.ofString "_law_cell_at"), f_law_cell_at), ((Str.ofString "_law_key"), f_law_key)]⟩
def f_law_row : Fu := run c_law_row 5 12 b_law_row
/-- text _law_holding -/
def n_law_holding : List Str := [(Str.ofString "_law_script"), (Str.ofString "_law_by"), (Str.ofString "_law_most"), (Str.ofString "_law_cell"), (Str.ofString "_law_wide"), (Str.ofString "_law_kind"), (Str.ofString "_law_found"), (Str.ofString "_law_many"), (Str.ofString "_law_row_here"), (Str.ofString "_law_one")]
def b_law_holding : List CS := [.set 3 (.cal 0 [(.var 0), (.var 1)]),
    .set 2 (.ife (.and (.cmp .gt (.var 2) (.lit (.int 5))) (.one (.cmp .eq (.bin .mod (.cal 1 [(.var 3), (.lit (.int 15))]) (.lit (.int 16))) (.lit (.int 5))))) (.lit (.int 10)) (.var 2)),
    .par [(4, false, (.bin .add (.lit (.int 1)) (.bin .mod (.cal 1 [(.var 3), (.lit (.int 1))]) (.lit (.int 3))))), (5, false, (.bin .mod (.cal 1 [(.var 3), (.lit (.int 5))]) (.lit (.int 3)))), (6, true, (.lst []))],
    .fo .rng [(.bin .mod (.cal 1 [(.var 3), (.lit (.int 2))]) (.bin .add (.var 2) (.lit (.int 1))))] (.nm 7) [.set 8 (.cal 2 [(.var 0), (.var 1), (.var 7), (.var 4), (.var 5)]),
    .ifs (.pk 6 (.cmp .notIn (.ix (.var 8) (.lit (.int 0))) (.lc [((Str.ofString "_law_one"), 9)] .seq [(.var 6)] (.nm 9) (.ix (.var 9) (.lit (.int 0)))))) [.app 6 (.var 8)] []],
    .clo 6,
    .ret (.blt .sorted [(.var 6)])]
def c_law_holding : Cf := ⟨[], [((Str.ofString "_law_cell_at"), f_law_cell_at), ((Str.ofString "_law_value"), f_law_value), ((Str.ofString "_law_row"), f_law_row)]⟩
def f_law_holding : Fu := run c_law_holding 3 10 b_law_holding
/-- text _law_copy -/
def n_law_copy : List Str := [(Str.ofString "_law_holding_here"), (Str.ofString "_law_key_here"), (Str.ofString "_law_fields"), (Str.ofString "_law_pointings")]
def b_law_copy : List CS := [.ret (.lc [((Str.ofString "_law_key_here"), 1), ((Str.ofString "_law_fields"), 2), ((Str.ofString "_law_pointings"), 3)] .seq [(.var 0)] (.tp [1, 2, 3]) (.tup [(.var 1), (.blt .list [(.var 2)]), (.blt .list [(.var 3)])]))]
def c_law_copy : Cf := ⟨[], []⟩
def f_law_copy : Fu := run c_law_copy 1 4 b_law_copy
/-- text _law_keys -/
def n_law_keys : List Str := [(Str.ofString "_law_holding_here"), (Str.ofString "_law_row_here")]
def b_law_keys : List CS := [.ret (.lc [((Str.ofString "_law_row_here"), 1)] .seq [(.var 0)] (.nm 1) (.ix (.var 1) (.lit (.int 0))))]
def c_law_keys : Cf := ⟨[], []⟩
def f_law_keys : Fu := run c_law_keys 1 2 b_law_keys
/-- text _law_k01 -/
def n_law_k01 : List Str := [(Str.ofString "_law_script"), (Str.ofString "_law_by"), (Str.ofString "_law_holding_here"), (Str.ofString "_law_value_here"), (Str.ofString "_law_offices"), (Str.ofString "_law_at"), (Str.ofString "_law_office"), (Str.ofString "_law_keys_here"), (Str.ofString "_law_gone"), (Str.ofString "_law_row_here"), (Str.ofString "_law_handed"), (Str.ofString "_law_mine"), (Str.ofString "_law_again"), (Str.ofString "_law_found"), (Str.ofString "_law_left"), (Str.ofString "_law_some"), (Str.ofString "_law_one"), (Str.ofString "_law_key_here")]
def b_law_k01 : List CS := [.set 0 (.sl (.var 0) (.lit .none) (.lit (.int 63))),
    .fo .rng [(.lit (.int 0)), (.blt .max [(.lit (.int 1)), (.blt .len [(.var 0)])]), (.bin .add (.lit (.int 1)) (.bin .fdv (.blt .len [(.var 0)]) (.lit (.int 5))))] (.nm 1) [.set 2 (.cal 0 [(.var 0), (.var 1), (.lit (.int 8))]),
    .set 3 (.cal 1 [(.cal 2 [(.var 0), (.var 1)]), (.lit (.int 11))]),
    .own 4 (.lst []),
    .fo .enu [(.sset (.bin .add (.lc [((Str.ofString "_law_row_here"), 9)] .seq [(.var 2)] (.nm 9) (.ix (.ix (.var 9) (.lit (.int 0))) (.lit (.int 0)))) (.lst [(.lit (.str (Str.ofString "b")))])))] (.tp [5, 6]) [.ifs (.cmp .eq (.bin .band (.bin .shr (.var 3) (.var 5)) (.lit (.int 1))) (.lit (.int 1))) [.app 4 (.var 6)] []],
    .par [(7, false, (.cal 3 [(.var 2)])), (8, false, (.lst []))],
    .fo .seq [(.var 2)] (.nm 9) [.set 8 (.bin .add (.var 8) (.lcf [((Str.ofString "_law_key_here"), 17)] .seq [(.ix (.var 9) (.lit (.int 2)))] (.nm 17) (.cmp .notIn (.var 17) (.var 7)) (.var 17)))],
    .clo 4,
    .par [(10, false, (.cal 4 [(.var 2)])), (11, false, (.blt .list [(.var 4)]))],
    .fo .rng [(.lit (.int 2))] (.nm 12) [.par [(13, true, (.new 5 [(.var 10), (.var 11)])), (14, true, (.new 6 [(.var 10)]))],
    .set 15 (.lcf [((Str.ofString "_law_row_here"), 9)] .seq [(.var 2)] (.nm 9) (.cmp .isIn (.ix (.ix (.var 9) (.lit (.int 0))) (.lit (.int 0))) (.var 4)) (.var 9)),
    .ifs (.or (.not (.pk 13 (.isi (.var 13) .list))) (.one (.pk 13 (.cmp .ne (.var 13) (.var 15))))) [.ret (.lit (.bool false))] [],
    .ifs (.or (.not (.pk 14 (.isi (.var 14) .list))) (.one (.pk 14 (.cmp .ne (.var 14) (.sset (.var 8)))))) [.ret (.lit (.bool false))] [],
    .ifs (.not (.pk 13 (.pk 14 (.blt .all [(.lc [((Str.ofString "_law_row_here"), 9)] .seq [(.bin .add (.var 13) (.var 14))] (.nm 9) (.isi (.var 9) .tuple))])))) [.ret (.lit (.bool false))] [],
    .spl 13 9 [(some 1, (.lit (.str (Str.ofString "")))), (some 2, (.tup [(.lit (.str (Str.ofString "a"))), (.lit (.int 0))]))],
    .apu 13 (.tup []),
    .apu 14 (.tup [(.lit (.str (Str.ofString "a"))), (.lit (.int 0))]),
    .ifs (.or (.cmp .ne (.var 10) (.var 2)) (.one (.cmp .ne (.var 11) (.var 4)))) [.ret (.lit (.bool false))] []]],
    .set 16 (.lst [(.tup [(.tup [(.lit (.str (Str.ofString "a"))), (.lit (.int 1))]), (.lst [(.lit (.str (Str.ofString "x")))]), (.lst [(.tup [(.lit (.str (Str.ofString "a"))), (.lit (.int 1))]), (.tup [(.lit (.str (Str.ofString "b"))), (.lit (.int 0))])])])]),
    .ret (.and (.cmp .eq (.cal 6 [(.var 16)]) (.lst [(.tup [(.lit (.str (Str.ofString "b"))), (.lit (.int 0))])])) (.and (.cmp .eq (.cal 5 [(.var 16), (.lst [(.lit (.str (Str.ofString "b")))])]) (.lst [])) (.one (.cmp .eq (.cal 5 [(.lst []), (.lst [])]) (.lst [])))))]
def c_law_k01 : Cf := ⟨[], [((Str.ofString "_law_holding"), f_law_holding), ((Str.ofString "_law_value"), f_law_value), ((Str.ofString "_law_cell_at"), f_law_cell_at), ((Str.ofString "_law_keys"), f_law_keys), ((Str.ofString "_law_copy"), f_law_copy), ((Str.ofString "of_offices"), f_of_offices), ((Str.ofString "lost"), f_lost)]⟩
def f_law_k01 : Fu := run c_law_k01 1 18 b_law_k01
/-- text _row_of -/
def n_row_of : List Str := [(Str.ofString "holding"), (Str.ofString "key"), (Str.ofString "row")]
def b_row_of : List CS := [.fo .seq [(.var 0)] (.nm 2) [.ifs (.cmp .eq (.ix (.var 2) (.lit (.int 0))) (.var 1)) [.ret (.var 2)] []],
    .ret (.lit .none)]
def c_row_of : Cf := ⟨[], []⟩
def f_row_of : Fu := run c_row_of 2 3 b_row_of
/-- text _texts_at -/
def n_texts_at : List Str := [(Str.ofString "holding"), (Str.ofString "keys"), (Str.ofString "column"), (Str.ofString "row")]
def b_texts_at : List CS := [.ret (.sset (.lcf [((Str.ofString "row"), 3)] .seq [(.var 0)] (.nm 3) (.and (.cmp .isIn (.ix (.var 3) (.lit (.int 0))) (.var 1)) (.one (.cmp .ne (.ix (.ix (.var 3) (.lit (.int 1))) (.var 2)) (.lit (.str (Str.ofString "")))))) (.ix (.ix (.var 3) (.lit (.int 1))) (.var 2))))]
def c_texts_at : Cf := ⟨[], []⟩
def f_texts_at : Fu := run c_texts_at 3 4 b_texts_at
/-- text _are_alike -/
def n_are_alike : List Str := [(Str.ofString "rule"), (Str.ofString "holding"), (Str.ofString "one"), (Str.ofString "other"), (Str.ofString "column"), (Str.ofString "theirs"), (Str.ofString "text")]
def b_are_alike : List CS := [.fo .seq [(.var 0)] (.nm 4) [.set 5 (.cal 0 [(.var 1), (.var 3), (.var 4)]),
    .ifs (.not (.blt .any [(.lc [((Str.ofString "text"), 6)] .seq [(.cal 0 [(.var 1), (.var 2), (.var 4)])] (.nm 6) (.cmp .isIn (.var 6) (.var 5)))])) [.ret (.lit (.bool false))] []],
    .ret (.lit (.bool true))]
def c_are_alike : Cf := ⟨[], [((Str.ofString "texts_at"), f_texts_at)]⟩
def f_are_alike : Fu := run c_are_alike 4 7 b_are_alike
/-- text _rules_by -/
def n_rules_by : List Str := [(Str.ofString "rules"), (Str.ofString "holding"), (Str.ofString "one"), (Str.ofString "other"), (Str.ofString "number"), (Str.ofString "rule")]
def b_rules_by : List CS := [.ret (.lcf [((Str.ofString "number"), 4), ((Str.ofString "rule"), 5)] .enu [(.var 0)] (.tp [4, 5]) (.cal 0 [(.var 5), (.var 1), (.var 2), (.var 3)]) (.var 4))]
def c_rules_by : Cf := ⟨[], [((Str.ofString "are_alike"), f_are_alike)]⟩
def f_rules_by : Fu := run c_rules_by 4 6 b_rules_by
/-- text _first_alike -/
def n_first_alike : List Str := [(Str.ofString "rules"), (Str.ofString "holding"), (Str.ofString "parting"), (Str.ofString "at"), (Str.ofString "one"), (Str.ofString "spot"), (Str.ofString "numbers")]
def b_first_alike : List CS := [.fo .enu [(.var 2)] (.tp [3, 4]) [.fo .rng [(.var 3)] (.nm 5) [.set 6 (.cal 0 [(.var 0), (.var 1), (.ix (.var 2) (.var 5)), (.var 4)]),
    .ifs (.cmp .ne (.var 6) (.lst [])) [.ret (.tup [(.var 5), (.var 3), (.ix (.var 6) (.lit (.int 0)))])] []]],
    .ret (.lit .none)]
def c_first_alike : Cf := ⟨[], [((Str.ofString "rules_by"), f_rules_by)]⟩
def f_first_alike : Fu := run c_first_alike 3 7 b_first_alike
/-- text _put_together -/
def n_put_together : List Str := [(Str.ofString "parting"), (Str.ofString "one"), (Str.ofString "other"), (Str.ofString "rest"), (Str.ofString "at"), (Str.ofString "keys")]
def b_put_together : List CS := [.set 3 (.lcf [((Str.ofString "at"), 4), ((Str.ofString "keys"), 5)] .enu [(.var 0)] (.tp [4, 5]) (.cmp .notIn (.var 4) (.tup [(.var 1), (.var 2)])) (.var 5)),
    .ret (.blt .sorted [(.bin .add (.var 3) (.lst [(.blt .sorted [(.bin .add (.ix (.var 0) (.var 1)) (.ix (.var 0) (.var 2)))])]))])]
def c_put_together : Cf := ⟨[], []⟩
def f_put_together : Fu := run c_put_together 3 6 b_put_together
/-- text _place_of -/
def n_place_of : List Str := [(Str.ofString "parting"), (Str.ofString "key"), (Str.ofString "at"), (Str.ofString "keys")]
def b_place_of : List CS := [.fo .enu [(.var 0)] (.tp [2, 3]) [.ifs (.cmp .isIn (.var 1) (.var 3)) [.ret (.var 2)] []],
    .ret (.neg (.lit (.int 1)))]
def c_place_of : Cf := ⟨[], []⟩
def f_place_of : Fu := run c_place_of 2 4 b_place_of
/-- text _union_of -/
def n_union_of : List Str := [(Str.ofString "one"), (Str.ofString "other"), (Str.ofString "keys"), (Str.ofString "row")]
def b_union_of : List CS := [.set 2 (.cal 0 [(.var 0)]),
    .ret (.cal 1 [(.blt .sorted [(.bin .add (.var 0) (.lcf [((Str.ofString "row"), 3)] .seq [(.var 1)] (.nm 3) (.cmp .notIn (.ix (.var 3) (.lit (.int 0))) (.var 2)) (.var 3)))])])]
def c_union_of : Cf := ⟨[], [((Str.ofString "keys_of"), f_keys_of), ((Str.ofString "copied"), f_copied)]⟩
def f_union_of : Fu := run c_union_of 2 4 b_union_of
/-- text _clash_keys -/
def n_clash_keys : List Str := [(Str.ofString "one"), (Str.ofString "other"), (Str.ofString "found"), (Str.ofString "row"), (Str.ofString "more")]
def b_clash_keys : List CS := [.own 2 (.lst []),
    .fo .seq [(.var 0)] (.nm 3) [.set 4 (.cal 0 [(.var 1), (.ix (.var 3) (.lit (.int 0)))]),
    .ifs (.and (.cmp .isNot (.var 4) (.lit .none)) (.one (.cmp .ne (.var 4) (.var 3)))) [.app 2 (.ix (.var 3) (.lit (.int 0)))] []],
    .clo 2,
    .ret (.var 2)]
def c_clash_keys : Cf := ⟨[], [((Str.ofString "row_of"), f_row_of)]⟩
def f_clash_keys : Fu := run c_clash_keys 2 5 b_clash_keys
/-- text _is_parting -/
def n_is_parting : List Str := [(Str.ofString "holding"), (Str.ofString "parting"), (Str.ofString "every"), (Str.ofString "keys")]
def b_is_parting : List CS := [.set 2 (.lst []),
    .fo .seq [(.var 1)] (.nm 3) [.ifs (.or (.cmp .eq (.var 3) (.lst [])) (.one (.not (.cal 0 [(.var 3)])))) [.ret (.lit (.bool false))] [],
    .set 2 (.bin .add (.var 2) (.var 3))],
    .ret (.and (.cal 0 [(.var 1)]) (.one (.cmp .eq (.blt .sorted [(.var 2)]) (.cal 1 [(.var 0)]))))]
def c_is_parting : Cf := ⟨[], [((Str.ofString "is_rising"), f_is_rising), ((Str.ofString "keys_of"), f_keys_of)]⟩
def f_is_parting : Fu := run c_is_parting 2 4 b_is_parting
/-- text _law_says -/
def n_law_says : List Str := [(Str.ofString "_law_said"), (Str.ofString "_law_due_here")]
def b_law_says : List CS := [.ret (.and (.isi (.var 0) .bool) (.one (.cmp .eq (.var 0) (.var 1))))]
def c_law_says : Cf := ⟨[], []⟩
def f_law_says : Fu := run c_law_says 2 2 b_law_says
/-- text _law_clashes -/
def n_law_clashes : List Str := [(Str.ofString "_law_one"), (Str.ofString "_law_other"), (Str.ofString "_law_row_here")]
def b_law_clashes : List CS := [.ret (.lcf [((Str.ofString "_law_row_here"), 2)] .seq [(.var 0)] (.nm 2) (.and (.cmp .isIn (.ix (.var 2) (.lit (.int 0))) (.cal 0 [(.var 1)])) (.one (.cmp .notIn (.var 2) (.var 1)))) (.ix (.var 2) (.lit (.int 0))))]
def c_law_clashes : Cf := ⟨[], [((Str.ofString "_law_keys"), f_law_keys)]⟩
def f_law_clashes : Fu := run c_law_clashes 2 3 b_law_clashes
/-- text _law_union -/
def n_law_union : List Str := [(Str.ofString "_law_one"), (Str.ofString "_law_other"), (Str.ofString "_law_row_here")]
def b_law_union : List CS := [.ret (.blt .sorted [(.bin .add (.var 0) (.lcf [((Str.ofString "_law_row_here"), 2)] .seq [(.var 1)] (.nm 2) (.cmp .notIn (.var 2) (.var 0)) (.var 2)))])]
def c_law_union : Cf := ⟨[], []⟩
def f_law_union : Fu := run c_law_union 2 3 b_law_union
/-- text _law_says_2 -/
def n_law_says_2 : List Str := [(Str.ofString "_law_said"), (Str.ofString "_law_due")]
def b_law_says_2 : List CS := [.ret (.and (.isi (.var 0) .bool) (.one (.cmp .eq (.var 0) (.var 1))))]
def c_law_says_2 : Cf := ⟨[], []⟩
def f_law_says_2 : Fu := run c_law_says_2 2 2 b_law_says_2
/-- text _is_rule -/
def n_is_rule : List Str := [(Str.ofString "thing"), (Str.ofString "many"), (Str.ofString "one")]
def b_is_rule : List CS := [.ifs (.or (.not (.isi (.var 0) .list)) (.or (.cmp .eq (.var 0) (.lst [])) (.one (.not (.blt .all [(.lc [((Str.ofString "one"), 2)] .seq [(.var 0)] (.nm 2) (.and (.cal 0 [(.var 2)]) (.one (.chn .le .lt (.lit (.int 0)) (.var 2) (.var 1)))))]))))) [.ret (.lit (.bool false))] [],
    .ret (.cal 1 [(.var 0)])]
def c_is_rule : Cf := ⟨[], [((Str.ofString "is_whole"), f_is_whole), ((Str.ofString "is_rising"), f_is_rising)]⟩
def f_is_rule : Fu := run c_is_rule 2 3 b_is_rule
/-- text _check_rules -/
def n_check_rules : List Str := [(Str.ofString "rules"), (Str.ofString "holding"), (Str.ofString "many"), (Str.ofString "rule")]
def b_check_rules : List CS := [.set 2 (.ife (.cmp .ne (.var 1) (.lst [])) (.blt .len [(.ix (.ix (.var 1) (.lit (.int 0))) (.lit (.int 1)))]) (.glb 0)),
    .ifs (.or (.not (.isi (.var 0) .list)) (.or (.cmp .gt (.blt .len [(.var 0)]) (.glb 1)) (.one (.not (.blt .all [(.lc [((Str.ofString "rule"), 3)] .seq [(.var 0)] (.nm 3) (.cal 0 [(.var 3), (.var 2)]))]))))) [.bad] []]
def c_check_rules : Cf := ⟨[((Str.ofString "MOST_FIELDS"), .int 3), ((Str.ofString "MOST_RULES"), .int 3)], [((Str.ofString "is_rule"), f_is_rule)]⟩
def f_check_rules : Fu := run c_check_rules 2 4 b_check_rules
/-- text _steps_of -/
def n_steps_of : List Str := [(Str.ofString "rules"), (Str.ofString "holding"), (Str.ofString "parting"), (Str.ofString "steps"), (Str.ofString "found"), (Str.ofString "one"), (Str.ofString "other"), (Str.ofString "number"), (Str.ofString "key")]
def b_steps_of : List CS := [.par [(2, false, (.lc [((Str.ofString "key"), 8)] .seq [(.cal 0 [(.var 1)])] (.nm 8) (.lst [(.var 8)]))), (3, true, (.lst []))],
    .set 4 (.cal 1 [(.var 0), (.var 1), (.var 2)]),
    .wh (2000) (.cmp .isNot (.var 4) (.lit .none)) [.unp (.tp [5, 6, 7]) (.var 4),
    .app 3 (.tup [(.ix (.ix (.var 2) (.var 5)) (.lit (.int 0))), (.ix (.ix (.var 2) (.var 6)) (.lit (.int 0))), (.var 7)]),
    .set 2 (.cal 2 [(.var 2), (.var 5), (.var 6)]),
    .set 4 (.cal 1 [(.var 0), (.var 1), (.var 2)])],
    .clo 3,
    .ret (.tup [(.var 3), (.var 2)])]
def c_steps_of : Cf := ⟨[], [((Str.ofString "keys_of"), f_keys_of), ((Str.ofString "first_alike"), f_first_alike), ((Str.ofString "put_together"), f_put_together)]⟩
def f_steps_of : Fu := run c_steps_of 2 9 b_steps_of
/-- text _check_both -/
def n_check_both : List Str := [(Str.ofString "rules"), (Str.ofString "holding")]
def b_check_both : List CS := [.exp (.cal 0 [(.var 1)]),
    .exp (.cal 1 [(.var 0), (.var 1)])]
def c_check_both : Cf := ⟨[], [((Str.ofString "check_holding"), f_check_holding), ((Str.ofString "check_rules"), f_check_rules)]⟩
def f_check_both : Fu := run c_check_both 2 2 b_check_both
/-- text _alike -/
def n_alike : List Str := [(Str.ofString "rules"), (Str.ofString "holding"), (Str.ofString "one"), (Str.ofString "other"), (Str.ofString "keys"), (Str.ofString "key")]
def b_alike : List CS := [.exp (.cal 0 [(.var 0), (.var 1)]),
    .fo .seq [(.tup [(.var 2), (.var 3)])] (.nm 4) [.ifs (.or (.not (.cal 2 [(.var 4)])) (.or (.cmp .eq (.var 4) (.lst [])) (.one (.not (.blt .all [(.lc [((Str.ofString "key"), 5)] .seq [(.var 4)] (.nm 5) (.cmp .isIn (.var 5) (.cal 1 [(.var 1)])))]))))) [.bad] []],
    .ret (.cal 3 [(.var 0), (.var 1), (.var 2), (.var 3)])]
def c_alike : Cf := ⟨[], [((Str.ofString "check_both"), f_check_both), ((Str.ofString "keys_of"), f_keys_of), ((Str.ofString "are_keys"), f_are_keys), ((Str.ofString "rules_by"), f_rules_by)]⟩
def f_alike : Fu := run c_alike 4 6 b_alike
/-- text _finest -/
def n_finest : List Str := [(Str.ofString "rules"), (Str.ofString "holding")]
def b_finest : List CS := [.exp (.cal 0 [(.var 0), (.var 1)]),
    .ret (.ix (.cal 1 [(.var 0), (.var 1)]) (.lit (.int 1)))]
def c_finest : Cf := ⟨[], [((Str.ofString "check_both"), f_check_both), ((Str.ofString "steps_of"), f_steps_of)]⟩
def f_finest : Fu := run c_finest 2 2 b_finest
/-- text _law_whole -/
def n_law_whole : List Str := [(Str.ofString "_law_number")]
def b_law_whole : List CS := [.ret (.and (.isi (.var 0) .int) (.one (.not (.isi (.var 0) .bool))))]
def c_law_whole : Cf := ⟨[], []⟩
def f_law_whole : Fu := run c_law_whole 1 1 b_law_whole
/-- text _law_row_2 -/
def n_law_row_2 : List Str := [(Str.ofString "_law_script"), (Str.ofString "_law_by_here"), (Str.ofString "_law_many"), (Str.ofString "_law_wide"), (Str.ofString "_law_kind"), (Str.ofString "_law_fields"), (Str.ofString "_law_pointings"), (Str.ofString "_law_column"), (Str.ofString "_law_number"), (Str.ofString "_law_text"), (Str.ofString "_law_value_here"), (Str.ofString "_law_at")]
def b_law_row_2 : List CS := [.par [(5, true, (.lst [])), (6, true, (.lst []))],
    .fo .rng [(.var 3)] (.nm 7) [.set 8 (.bin .add (.bin .fdv (.cal 0 [(.cal 1 [(.var 0), (.bin .add (.var 1) (.bin .mod (.var 7) (.lit (.int 5))))]), (.bin .add (.bin .add (.lit (.int 3)) (.var 7)) (.bin .mod (.var 2) (.lit (.int 7))))]) (.lit (.int 3))) (.bin .mul (.lit (.int 7)) (.var 2))),
    .set 9 (.ix (.tup [(.lit (.str (Str.ofString ""))), (.lit (.str (Str.ofString "a"))), (.lit (.str (Str.ofString "b"))), (.lit (.str (Str.ofString "ab"))), (.lit (.str (Str.ofString "twelveletter"))), (.lit (.str (Str.ofString "c"))), (.lit (.str (Str.ofString ""))), (.lit (.str (Str.ofString "a")))]) (.bin .mod (.var 8) (.ix (.tup [(.lit (.int 3)), (.lit (.int 8)), (.lit (.int 5))]) (.var 4)))),
    .ifs (.cmp .eq (.bin .mod (.bin .fdv (.var 8) (.lit (.int 8))) (.lit (.int 5))) (.lit (.int 0))) [.set 9 (.bin .add (.ix (.lit (.str (Str.ofString "abcdefghijklmnopqrstuvwxyz"))) (.bin .mod (.bin .fdv (.var 8) (.lit (.int 40))) (.lit (.int 26)))) (.sl (.var 9) (.lit .none) (.lit (.int 3))))] [],
    .app 5 (.var 9)],
    .set 10 (.bin .add (.bin .fdv (.cal 0 [(.cal 1 [(.var 0), (.bin .add (.var 1) (.bin .mod (.var 2) (.lit (.int 5))))]), (.bin .add (.lit (.int 6)) (.bin .mod (.var 2) (.lit (.int 5))))]) (.lit (.int 3))) (.bin .mul (.lit (.int 13)) (.var 2))),
    .fo .rng [(.bin .mod (.var 10) (.lit (.int 4)))] (.nm 11) [.app 6 (.cal 2 [(.bin .fdv (.bin .fdv (.var 10) (.lit (.int 7))) (.bin .add (.bin .mul (.lit (.int 5)) (.var 11)) (.lit (.int 1))))])],
    .clo 5,
    .clo 6,
    .ret (.tup [(.cal 2 [(.bin .add (.bin .fdv (.var 10) (.lit (.int 3))) (.bin .mul (.lit (.int 5)) (.var 2)))]), (.var 5), (.sset (.var 6))])]
def c_law_row_2 : Cf := ⟨[], [((Str.ofString "_law_value"), f_law_value), ((Str.ofString "_law_cell_at"), f_law_cell_at), ((Str.ofString "_law_key"), f_law_key)]⟩
def f_law_row_2 : Fu := run c_law_row_2 5 12 b_law_row_2
/-- text _law_holding_2 -/
def n_law_holding_2 : List Str := [(Str.ofString "_law_script"), (Str.ofString "_law_by_here"), (Str.ofString "_law_most"), (Str.ofString "_law_cell"), (Str.ofString "_law_wide"), (Str.ofString "_law_kind"), (Str.ofString "_law_found"), (Str.ofString "_law_many"), (Str.ofString "_law_row_here"), (Str.ofString "_law_one")]
def b_law_holding_2 : List CS := [.set 3 (.cal 0 [(.var 0), (.var 1)]),
    .set 2 (.ife (.and (.cmp .gt (.var 2) (.lit (.int 5))) (.one (.cmp .eq (.bin .mod (.cal 1 [(.var 3), (.lit (.int 15))]) (.lit (.int 16))) (.lit (.int 5))))) (.lit (.int 10)) (.var 2)),
    .par [(4, false, (.bin .add (.lit (.int 1)) (.bin .mod (.cal 1 [(.var 3), (.lit (.int 1))]) (.lit (.int 3))))), (5, false, (.bin .mod (.cal 1 [(.var 3), (.lit (.int 5))]) (.lit (.int 3)))), (6, true, (.lst []))],
    .fo .rng [(.bin .mod (.cal 1 [(.var 3), (.lit (.int 2))]) (.bin .add (.var 2) (.lit (.int 1))))] (.nm 7) [.set 8 (.cal 2 [(.var 0), (.var 1), (.var 7), (.var 4), (.var 5)]),
    .ifs (.pk 6 (.cmp .notIn (.ix (.var 8) (.lit (.int 0))) (.lc [((Str.ofString "_law_one"), 9)] .seq [(.var 6)] (.nm 9) (.ix (.var 9) (.lit (.int 0)))))) [.app 6 (.var 8)] []],
    .clo 6,
    .ret (.blt .sorted [(.var 6)])]
def c_law_holding_2 : Cf := ⟨[], [((Str.ofString "_law_cell_at"), f_law_cell_at), ((Str.ofString "_law_value"), f_law_value), ((Str.ofString "_law_row"), f_law_row_2)]⟩
def f_law_holding_2 : Fu := run c_law_holding_2 3 10 b_law_holding_2
/-- text _law_rules -/
def n_law_rules : List Str := [(Str.ofString "_law_script"), (Str.ofString "_law_by_here"), (Str.ofString "_law_holding_here"), (Str.ofString "_law_wide"), (Str.ofString "_law_found"), (Str.ofString "_law_value_here"), (Str.ofString "_law_at"), (Str.ofString "_law_number"), (Str.ofString "_law_rule"), (Str.ofString "_law_column")]
def b_law_rules : List CS := [.set 3 (.ife (.cmp .ne (.var 2) (.lst [])) (.blt .len [(.ix (.ix (.var 2) (.lit (.int 0))) (.lit (.int 1)))]) (.lit (.int 2))),
    .par [(4, true, (.lst [])), (5, false, (.cal 0 [(.cal 1 [(.var 0), (.var 1)]), (.lit (.int 9))]))],
    .fo .rng [(.bin .mod (.var 5) (.lit (.int 4)))] (.nm 6) [.set 7 (.bin .fdv (.bin .fdv (.var 5) (.lit (.int 4))) (.bin .add (.bin .mul (.lit (.int 7)) (.var 6)) (.lit (.int 1)))),
    .own 8 (.lst []),
    .fo .rng [(.var 3)] (.nm 9) [.ifs (.cmp .eq (.bin .band (.bin .shr (.var 7) (.var 9)) (.lit (.int 1))) (.lit (.int 1))) [.app 8 (.var 9)] []],
    .clo 8,
    .app 4 (.or (.var 8) (.one (.lst [(.bin .mod (.var 7) (.var 3))])))],
    .clo 4,
    .ret (.var 4)]
def c_law_rules : Cf := ⟨[], [((Str.ofString "_law_value"), f_law_value), ((Str.ofString "_law_cell_at"), f_law_cell_at)]⟩
def f_law_rules : Fu := run c_law_rules 3 10 b_law_rules
/-- text _law_alike -/
def n_law_alike : List Str := [(Str.ofString "_law_rule"), (Str.ofString "_law_holding_here"), (Str.ofString "_law_one"), (Str.ofString "_law_other"), (Str.ofString "_law_column"), (Str.ofString "_law_mine"), (Str.ofString "_law_theirs"), (Str.ofString "_law_row_here"), (Str.ofString "_law_text")]
def b_law_alike : List CS := [.fo .seq [(.var 0)] (.nm 4) [.set 5 (.lcf [((Str.ofString "_law_row_here"), 7)] .seq [(.var 1)] (.nm 7) (.cmp .isIn (.ix (.var 7) (.lit (.int 0))) (.var 2)) (.ix (.ix (.var 7) (.lit (.int 1))) (.var 4))),
    .set 6 (.lcf [((Str.ofString "_law_row_here"), 7)] .seq [(.var 1)] (.nm 7) (.cmp .isIn (.ix (.var 7) (.lit (.int 0))) (.var 3)) (.ix (.ix (.var 7) (.lit (.int 1))) (.var 4))),
    .ifs (.not (.blt .any [(.lc [((Str.ofString "_law_text"), 8)] .seq [(.var 5)] (.nm 8) (.and (.cmp .ne (.var 8) (.lit (.str (Str.ofString "")))) (.one (.cmp .isIn (.var 8) (.var 6)))))])) [.ret (.lit (.bool false))] []],
    .ret (.lit (.bool true))]
def c_law_alike : Cf := ⟨[], []⟩
def f_law_alike : Fu := run c_law_alike 4 9 b_law_alike
/-- text _law_by -/
def n_law_by : List Str := [(Str.ofString "_law_rules_here"), (Str.ofString "_law_holding_here"), (Str.ofString "_law_one"), (Str.ofString "_law_other"), (Str.ofString "_law_number"), (Str.ofString "_law_rule")]
def b_law_by : List CS := [.ret (.lcf [((Str.ofString "_law_number"), 4), ((Str.ofString "_law_rule"), 5)] .enu [(.var 0)] (.tp [4, 5]) (.cal 0 [(.var 5), (.var 1), (.var 2), (.var 3)]) (.var 4))]
def c_law_by : Cf := ⟨[], [((Str.ofString "_law_alike"), f_law_alike)]⟩
def f_law_by : Fu := run c_law_by 4 6 b_law_by
/-- text _law_joined -/
def n_law_joined : List Str := [(Str.ofString "_law_parting"), (Str.ofString "_law_one"), (Str.ofString "_law_other"), (Str.ofString "_law_found"), (Str.ofString "_law_at"), (Str.ofString "_law_keys_here")]
def b_law_joined : List CS := [.own 3 (.lst [(.blt .sorted [(.bin .add (.ix (.var 0) (.var 1)) (.ix (.var 0) (.var 2)))])]),
    .fo .enu [(.var 0)] (.tp [4, 5]) [.ifs (.and (.cmp .ne (.var 4) (.var 1)) (.one (.cmp .ne (.var 4) (.var 2)))) [.app 3 (.var 5)] []],
    .clo 3,
    .ret (.var 3)]
def c_law_joined : Cf := ⟨[], []⟩
def f_law_joined : Fu := run c_law_joined 3 6 b_law_joined
/-- text _law_finest -/
def n_law_finest : List Str := [(Str.ofString "_law_rules_here"), (Str.ofString "_law_holding_here"), (Str.ofString "_law_parting"), (Str.ofString "_law_going"), (Str.ofString "_law_at"), (Str.ofString "_law_spot"), (Str.ofString "_law_some_here"), (Str.ofString "_law_key_here")]
def b_law_finest : List CS := [.set 2 (.lc [((Str.ofString "_law_key_here"), 7)] .seq [(.cal 0 [(.var 1)])] (.nm 7) (.lst [(.var 7)])),
    .set 3 (.lit (.bool true)),
    .wh (2000) (.var 3) [.set 3 (.lit (.bool false)),
    .fo .rng [(.bin .sub (.blt .len [(.var 2)]) (.lit (.int 1))), (.lit (.int 0)), (.neg (.lit (.int 1)))] (.nm 4) [.fo .rng [(.bin .sub (.var 4) (.lit (.int 1))), (.neg (.lit (.int 1))), (.neg (.lit (.int 1)))] (.nm 5) [.ifs (.not (.var 3)) [.set 6 (.cal 1 [(.var 0), (.var 1), (.ix (.var 2) (.var 4)), (.ix (.var 2) (.var 5))]),
    .set 3 (.cmp .ne (.var 6) (.lst [])),
    .set 2 (.ife (.var 3) (.cal 2 [(.var 2), (.var 4), (.var 5)]) (.var 2))] []]]],
    .ret (.blt .sorted [(.var 2)])]
def c_law_finest : Cf := ⟨[], [((Str.ofString "_law_keys"), f_law_keys), ((Str.ofString "_law_by"), f_law_by), ((Str.ofString "_law_joined"), f_law_joined)]⟩
def f_law_finest : Fu := run c_law_finest 2 8 b_law_finest
/-- text _law_some -/
def n_law_some : List Str := [(Str.ofString "_law_keys_here"), (Str.ofString "_law_number"), (Str.ofString "_law_found"), (Str.ofString "_law_place"), (Str.ofString "_law_key_here")]
def b_law_some : List CS := [.own 2 (.lst []),
    .fo .enu [(.var 0)] (.tp [3, 4]) [.ifs (.cmp .eq (.bin .band (.bin .shr (.var 1) (.var 3)) (.lit (.int 1))) (.lit (.int 1))) [.app 2 (.var 4)] []],
    .clo 2,
    .ret (.var 2)]
def c_law_some : Cf := ⟨[], []⟩
def f_law_some : Fu := run c_law_some 2 5 b_law_some
/-- text _law_k04 -/
def n_law_k04 : List Str := [(Str.ofString "_law_script"), (Str.ofString "_law_by_here"), (Str.ofString "_law_holding_here"), (Str.ofString "_law_rules_here"), (Str.ofString "_law_handed"), (Str.ofString "_law_mine"), (Str.ofString "_law_due"), (Str.ofString "_law_again"), (Str.ofString "_law_found"), (Str.ofString "_law_keys_here"), (Str.ofString "_law_value_here"), (Str.ofString "_law_at"), (Str.ofString "_law_one"), (Str.ofString "_law_other"), (Str.ofString "_law_told"), (Str.ofString "_law_rows"), (Str.ofString "_law_rule"), (Str.ofString "_law_number")]
def b_law_k04 : List CS := [.set 0 (.sl (.var 0) (.lit .none) (.lit (.int 63))),
    .fo .rng [(.lit (.int 0)), (.blt .max [(.lit (.int 1)), (.blt .min [(.lit (.int 3)), (.blt .len [(.var 0)])])])] (.nm 1) [.set 2 (.cal 0 [(.var 0), (.var 1), (.lit (.int 7))]),
    .set 3 (.cal 1 [(.var 0), (.bin .add (.var 1) (.lit (.int 1))), (.var 2)]),
    .par [(4, false, (.cal 2 [(.var 2)])), (5, false, (.lc [((Str.ofString "_law_rule"), 16)] .seq [(.var 3)] (.nm 16) (.blt .list [(.var 16)])))],
    .set 6 (.cal 3 [(.var 3), (.var 2)]),
    .fo .rng [(.lit (.int 2))] (.nm 7) [.own 8 (.new 4 [(.var 5), (.var 4)]),
    .ifs (.or (.not (.pk 8 (.isi (.var 8) .list))) (.or (.pk 8 (.cmp .ne (.var 8) (.var 6))) (.one (.cmp .ne (.lst [(.var 4), (.var 5)]) (.lst [(.var 2), (.var 3)]))))) [.ret (.lit (.bool false))] [],
    .ifs (.not (.pk 8 (.blt .all [(.lc [((Str.ofString "_law_keys_here"), 9)] .seq [(.var 8)] (.nm 9) (.isi (.var 9) .list))]))) [.ret (.lit (.bool false))] [],
    .spl 8 9 [(none, (.tup [(.lit (.str (Str.ofString "a"))), (.lit (.int 0))]))],
    .apu 8 (.lst [])],
    .set 9 (.cal 5 [(.var 2)]),
    .set 10 (.cal 6 [(.cal 7 [(.var 0), (.var 1)]), (.lit (.int 13))]),
    .fo .rng [(.ife (.cmp .ne (.var 9) (.lst [])) (.lit (.int 4)) (.lit (.int 0)))] (.nm 11) [.set 12 (.or (.cal 8 [(.var 9), (.bin .shr (.var 10) (.var 11))]) (.one (.sl (.var 9) (.lit .none) (.lit (.int 1))))),
    .set 13 (.or (.cal 8 [(.var 9), (.bin .shr (.var 10) (.bin .add (.lit (.int 7)) (.var 11)))]) (.one (.sl (.var 9) (.neg (.lit (.int 1))) (.lit .none)))),
    .set 14 (.cal 9 [(.var 5), (.var 4), (.blt .list [(.var 12)]), (.blt .list [(.var 13)])]),
    .ifs (.or (.not (.isi (.var 14) .list)) (.one (.cmp .ne (.var 14) (.cal 10 [(.var 3), (.var 2), (.var 12), (.var 13)])))) [.ret (.lit (.bool false))] [],
    .ifs (.or (.not (.blt .all [(.lc [((Str.ofString "_law_number"), 17)] .seq [(.var 14)] (.nm 17) (.cal 11 [(.var 17)]))])) (.one (.cmp .ne (.lst [(.var 4), (.var 5)]) (.lst [(.var 2), (.var 3)])))) [.ret (.lit (.bool false))] []]],
    .set 15 (.lst [(.tup [(.tup [(.lit (.str (Str.ofString "a"))), (.lit (.int 1))]), (.lst [(.lit (.str (Str.ofString "x"))), (.lit (.str (Str.ofString "p")))]), (.lst [])]), (.tup [(.tup [(.lit (.str (Str.ofString "a"))), (.lit (.int 2))]), (.lst [(.lit (.str (Str.ofString "x"))), (.lit (.str (Str.ofString "q")))]), (.lst [])]), (.tup [(.tup [(.lit (.str (Str.ofString "b"))), (.lit (.int 1))]), (.lst [(.lit (.str (Str.ofString ""))), (.lit (.str (Str.ofString "q")))]), (.lst [])]), (.tup [(.tup [(.lit (.str (Str.ofString "c"))), (.lit (.int 1))]), (.lst [(.lit (.str (Str.ofString ""))), (.lit (.str (Str.ofString "")))]), (.lst [])])]),
    .ifs (.or (.cmp .ne (.cal 4 [(.lst [(.lst [(.lit (.int 0))]), (.lst [(.lit (.int 1))])]), (.var 15)]) (.lst [(.lst [(.tup [(.lit (.str (Str.ofString "a"))), (.lit (.int 1))]), (.tup [(.lit (.str (Str.ofString "a"))), (.lit (.int 2))]), (.tup [(.lit (.str (Str.ofString "b"))), (.lit (.int 1))])]), (.lst [(.tup [(.lit (.str (Str.ofString "c"))), (.lit (.int 1))])])])) (.one (.cmp .ne (.cal 4 [(.lst []), (.lst [])]) (.lst [])))) [.ret (.lit (.bool false))] [],
    .ret (.and (.cmp .eq (.blt .len [(.cal 4 [(.lst [(.lst [(.lit (.int 0)), (.lit (.int 1))])]), (.var 15)])]) (.lit (.int 4))) (.one (.cmp .eq (.cal 9 [(.lst [(.lst [(.lit (.int 1))]), (.lst [(.lit (.int 0))])]), (.var 15), (.lst [(.tup [(.lit (.str (Str.ofString "a"))), (.lit (.int 1))])]), (.lst [(.tup [(.lit (.str (Str.ofString "a"))), (.lit (.int 2))]), (.tup [(.lit (.str (Str.ofString "b"))), (.lit (.int 1))])])]) (.lst [(.lit (.int 1))]))))]
def c_law_k04 : Cf := ⟨[], [((Str.ofString "_law_holding"), f_law_holding_2), ((Str.ofString "_law_rules"), f_law_rules), ((Str.ofString "_law_copy"), f_law_copy), ((Str.ofString "_law_finest"), f_law_finest), ((Str.ofString "finest"), f_finest), ((Str.ofString "_law_keys"), f_law_keys), ((Str.ofString "_law_value"), f_law_value), ((Str.ofString "_law_cell_at"), f_law_cell_at), ((Str.ofString "_law_some"), f_law_some), ((Str.ofString "alike"), f_alike), ((Str.ofString "_law_by"), f_law_by), ((Str.ofString "_law_whole"), f_law_whole)]⟩
def f_law_k04 : Fu := run c_law_k04 1 18 b_law_k04
/-- text _check_key -/
def n_check_key : List Str := [(Str.ofString "holding"), (Str.ofString "key")]
def b_check_key : List CS := [.ifs (.or (.not (.cal 1 [(.var 1)])) (.one (.cmp .notIn (.var 1) (.cal 0 [(.var 0)])))) [.bad] []]
def c_check_key : Cf := ⟨[], [((Str.ofString "keys_of"), f_keys_of), ((Str.ofString "is_key"), f_is_key)]⟩
def f_check_key : Fu := run c_check_key 2 2 b_check_key
/-- text _law_joined_2 -/
def n_law_joined_2 : List Str := [(Str.ofString "_law_parting_here"), (Str.ofString "_law_one"), (Str.ofString "_law_other"), (Str.ofString "_law_found"), (Str.ofString "_law_at"), (Str.ofString "_law_keys_here")]
def b_law_joined_2 : List CS := [.own 3 (.lst [(.blt .sorted [(.bin .add (.ix (.var 0) (.var 1)) (.ix (.var 0) (.var 2)))])]),
    .fo .enu [(.var 0)] (.tp [4, 5]) [.ifs (.and (.cmp .ne (.var 4) (.var 1)) (.one (.cmp .ne (.var 4) (.var 2)))) [.app 3 (.var 5)] []],
    .clo 3,
    .ret (.var 3)]
def c_law_joined_2 : Cf := ⟨[], []⟩
def f_law_joined_2 : Fu := run c_law_joined_2 3 6 b_law_joined_2
/-- text _law_finest_2 -/
def n_law_finest_2 : List Str := [(Str.ofString "_law_rules_here"), (Str.ofString "_law_holding_here"), (Str.ofString "_law_parting_here"), (Str.ofString "_law_going"), (Str.ofString "_law_at"), (Str.ofString "_law_spot"), (Str.ofString "_law_some"), (Str.ofString "_law_key_here")]
def b_law_finest_2 : List CS := [.set 2 (.lc [((Str.ofString "_law_key_here"), 7)] .seq [(.cal 0 [(.var 1)])] (.nm 7) (.lst [(.var 7)])),
    .set 3 (.lit (.bool true)),
    .wh (2000) (.var 3) [.set 3 (.lit (.bool false)),
    .fo .rng [(.bin .sub (.blt .len [(.var 2)]) (.lit (.int 1))), (.lit (.int 0)), (.neg (.lit (.int 1)))] (.nm 4) [.fo .rng [(.bin .sub (.var 4) (.lit (.int 1))), (.neg (.lit (.int 1))), (.neg (.lit (.int 1)))] (.nm 5) [.ifs (.not (.var 3)) [.set 6 (.cal 1 [(.var 0), (.var 1), (.ix (.var 2) (.var 4)), (.ix (.var 2) (.var 5))]),
    .set 3 (.cmp .ne (.var 6) (.lst [])),
    .set 2 (.ife (.var 3) (.cal 2 [(.var 2), (.var 4), (.var 5)]) (.var 2))] []]]],
    .ret (.blt .sorted [(.var 2)])]
def c_law_finest_2 : Cf := ⟨[], [((Str.ofString "_law_keys"), f_law_keys), ((Str.ofString "_law_by"), f_law_by), ((Str.ofString "_law_joined"), f_law_joined_2)]⟩
def f_law_finest_2 : Fu := run c_law_finest_2 2 8 b_law_finest_2
/-- text _law_place -/
def n_law_place : List Str := [(Str.ofString "_law_parting_here"), (Str.ofString "_law_key_here"), (Str.ofString "_law_at"), (Str.ofString "_law_keys_here")]
def b_law_place : List CS := [.fo .enu [(.var 0)] (.tp [2, 3]) [.ifs (.cmp .isIn (.var 1) (.var 3)) [.ret (.var 2)] []],
    .ret (.neg (.lit (.int 1)))]
def c_law_place : Cf := ⟨[], []⟩
def f_law_place : Fu := run c_law_place 2 4 b_law_place
/-- text _law_closed -/
def n_law_closed : List Str := [(Str.ofString "_law_rules_here"), (Str.ofString "_law_holding_here"), (Str.ofString "_law_parting_here"), (Str.ofString "_law_at"), (Str.ofString "_law_one"), (Str.ofString "_law_other")]
def b_law_closed : List CS := [.fo .enu [(.var 2)] (.tp [3, 4]) [.ifs (.blt .any [(.lc [((Str.ofString "_law_other"), 5)] .seq [(.sl (.var 2) (.lit .none) (.var 3))] (.nm 5) (.cmp .ne (.cal 0 [(.var 0), (.var 1), (.var 4), (.var 5)]) (.lst [])))]) [.ret (.lit (.bool false))] []],
    .ret (.lit (.bool true))]
def c_law_closed : Cf := ⟨[], [((Str.ofString "_law_by"), f_law_by)]⟩
def f_law_closed : Fu := run c_law_closed 3 6 b_law_closed
/-- text _law_rising -/
def n_law_rising : List Str := [(Str.ofString "_law_things"), (Str.ofString "_law_at")]
def b_law_rising : List CS := [.ret (.blt .all [(.lc [((Str.ofString "_law_at"), 1)] .rng [(.bin .sub (.blt .len [(.var 0)]) (.lit (.int 1)))] (.nm 1) (.cmp .lt (.ix (.var 0) (.var 1)) (.ix (.var 0) (.bin .add (.var 1) (.lit (.int 1))))))])]
def c_law_rising : Cf := ⟨[], []⟩
def f_law_rising : Fu := run c_law_rising 1 2 b_law_rising
/-- text _law_parting -/
def n_law_parting : List Str := [(Str.ofString "_law_holding_here"), (Str.ofString "_law_parting_here"), (Str.ofString "_law_every"), (Str.ofString "_law_keys_here")]
def b_law_parting : List CS := [.set 2 (.lst []),
    .fo .seq [(.var 1)] (.nm 3) [.ifs (.or (.cmp .eq (.var 3) (.lst [])) (.one (.not (.cal 0 [(.var 3)])))) [.ret (.lit (.bool false))] [],
    .set 2 (.bin .add (.var 2) (.var 3))],
    .ifs (.not (.cal 0 [(.var 1)])) [.ret (.lit (.bool false))] [],
    .ret (.cmp .eq (.blt .sorted [(.var 2)]) (.cal 1 [(.var 0)]))]
def c_law_parting : Cf := ⟨[], [((Str.ofString "_law_rising"), f_law_rising), ((Str.ofString "_law_keys"), f_law_keys)]⟩
def f_law_parting : Fu := run c_law_parting 2 4 b_law_parting
/-- text _law_stepped -/
def n_law_stepped : List Str := [(Str.ofString "_law_rules_here"), (Str.ofString "_law_holding_here"), (Str.ofString "_law_steps"), (Str.ofString "_law_parting_here"), (Str.ofString "_law_one"), (Str.ofString "_law_other"), (Str.ofString "_law_number"), (Str.ofString "_law_mine"), (Str.ofString "_law_theirs"), (Str.ofString "_law_key_here")]
def b_law_stepped : List CS := [.set 3 (.lc [((Str.ofString "_law_key_here"), 9)] .seq [(.cal 0 [(.var 1)])] (.nm 9) (.lst [(.var 9)])),
    .fo .seq [(.var 2)] (.tp [4, 5, 6]) [.par [(7, false, (.cal 1 [(.var 3), (.var 4)])), (8, false, (.cal 1 [(.var 3), (.var 5)]))],
    .ifs (.or (.cmp .lt (.var 7) (.lit (.int 0))) (.or (.cmp .lt (.var 8) (.lit (.int 0))) (.one (.cmp .eq (.var 7) (.var 8))))) [.ret (.lit .none)] [],
    .ifs (.cmp .notIn (.var 6) (.cal 2 [(.var 0), (.var 1), (.ix (.var 3) (.var 7)), (.ix (.var 3) (.var 8))])) [.ret (.lit .none)] [],
    .set 3 (.cal 3 [(.var 3), (.var 7), (.var 8)])],
    .ret (.var 3)]
def c_law_stepped : Cf := ⟨[], [((Str.ofString "_law_keys"), f_law_keys), ((Str.ofString "_law_place"), f_law_place), ((Str.ofString "_law_by"), f_law_by), ((Str.ofString "_law_joined"), f_law_joined_2)]⟩
def f_law_stepped : Fu := run c_law_stepped 3 10 b_law_stepped
/-- text _record_of -/
def n_record_of : List Str := [(Str.ofString "rules"), (Str.ofString "holding"), (Str.ofString "key")]
def b_record_of : List CS := [.exp (.cal 0 [(.var 0), (.var 1)]),
    .exp (.cal 1 [(.var 1), (.var 2)]),
    .ret (.cal 2 [(.ix (.cal 3 [(.var 0), (.var 1)]) (.lit (.int 1))), (.var 2)])]
def c_record_of : Cf := ⟨[], [((Str.ofString "check_both"), f_check_both), ((Str.ofString "check_key"), f_check_key), ((Str.ofString "place_of"), f_place_of), ((Str.ofString "steps_of"), f_steps_of)]⟩
def f_record_of : Fu := run c_record_of 3 3 b_record_of
/-- text _law_finest_3 -/
def n_law_finest_3 : List Str := [(Str.ofString "_law_rules_here"), (Str.ofString "_law_holding_here"), (Str.ofString "_law_parting"), (Str.ofString "_law_going"), (Str.ofString "_law_at"), (Str.ofString "_law_spot"), (Str.ofString "_law_some"), (Str.ofString "_law_key_here")]
def b_law_finest_3 : List CS := [.set 2 (.lc [((Str.ofString "_law_key_here"), 7)] .seq [(.cal 0 [(.var 1)])] (.nm 7) (.lst [(.var 7)])),
    .set 3 (.lit (.bool true)),
    .wh (2000) (.var 3) [.set 3 (.lit (.bool false)),
    .fo .rng [(.bin .sub (.blt .len [(.var 2)]) (.lit (.int 1))), (.lit (.int 0)), (.neg (.lit (.int 1)))] (.nm 4) [.fo .rng [(.bin .sub (.var 4) (.lit (.int 1))), (.neg (.lit (.int 1))), (.neg (.lit (.int 1)))] (.nm 5) [.ifs (.not (.var 3)) [.set 6 (.cal 1 [(.var 0), (.var 1), (.ix (.var 2) (.var 4)), (.ix (.var 2) (.var 5))]),
    .set 3 (.cmp .ne (.var 6) (.lst [])),
    .set 2 (.ife (.var 3) (.cal 2 [(.var 2), (.var 4), (.var 5)]) (.var 2))] []]]],
    .ret (.blt .sorted [(.var 2)])]
def c_law_finest_3 : Cf := ⟨[], [((Str.ofString "_law_keys"), f_law_keys), ((Str.ofString "_law_by"), f_law_by), ((Str.ofString "_law_joined"), f_law_joined)]⟩
def f_law_finest_3 : Fu := run c_law_finest_3 2 8 b_law_finest_3
/-- text _law_place_2 -/
def n_law_place_2 : List Str := [(Str.ofString "_law_parting"), (Str.ofString "_law_key_here"), (Str.ofString "_law_at"), (Str.ofString "_law_keys_here")]
def b_law_place_2 : List CS := [.fo .enu [(.var 0)] (.tp [2, 3]) [.ifs (.cmp .isIn (.var 1) (.var 3)) [.ret (.var 2)] []],
    .ret (.neg (.lit (.int 1)))]
def c_law_place_2 : Cf := ⟨[], []⟩
def f_law_place_2 : Fu := run c_law_place_2 2 4 b_law_place_2
/-- text _law_records -/
def n_law_records : List Str := [(Str.ofString "_law_rules_here"), (Str.ofString "_law_holding_here"), (Str.ofString "_law_found"), (Str.ofString "_law_parting"), (Str.ofString "_law_keys_here"), (Str.ofString "_law_rows"), (Str.ofString "_law_fields"), (Str.ofString "_law_column"), (Str.ofString "_law_places"), (Str.ofString "_law_row_here"), (Str.ofString "_law_key_here"), (Str.ofString "_law_place_here")]
def b_law_records : List CS := [.par [(2, true, (.lst [])), (3, false, (.cal 0 [(.var 0), (.var 1)]))],
    .fo .seq [(.var 3)] (.nm 4) [.set 5 (.lcf [((Str.ofString "_law_row_here"), 9)] .seq [(.var 1)] (.nm 9) (.cmp .isIn (.ix (.var 9) (.lit (.int 0))) (.var 4)) (.var 9)),
    .own 6 (.lst []),
    .fo .rng [(.blt .len [(.ix (.ix (.var 5) (.lit (.int 0))) (.lit (.int 1)))])] (.nm 7) [.app 6 (.sset (.lcf [((Str.ofString "_law_row_here"), 9)] .seq [(.var 5)] (.nm 9) (.cmp .ne (.ix (.ix (.var 9) (.lit (.int 1))) (.var 7)) (.lit (.str (Str.ofString "")))) (.ix (.ix (.var 9) (.lit (.int 1))) (.var 7))))],
    .set 8 (.lst []),
    .fo .seq [(.var 5)] (.nm 9) [.set 8 (.bin .add (.var 8) (.lc [((Str.ofString "_law_key_here"), 10)] .seq [(.ix (.var 9) (.lit (.int 2)))] (.nm 10) (.cal 1 [(.var 3), (.var 10)])))],
    .clo 6,
    .app 2 (.tup [(.var 4), (.var 6), (.sset (.lcf [((Str.ofString "_law_place_here"), 11)] .seq [(.var 8)] (.nm 11) (.cmp .ge (.var 11) (.lit (.int 0))) (.var 11)))])],
    .clo 2,
    .ret (.var 2)]
def c_law_records : Cf := ⟨[], [((Str.ofString "_law_finest"), f_law_finest_3), ((Str.ofString "_law_place"), f_law_place_2)]⟩
def f_law_records : Fu := run c_law_records 2 12 b_law_records
/-- text _lists_of -/
def n_lists_of : List Str := [(Str.ofString "keys"), (Str.ofString "many"), (Str.ofString "found"), (Str.ofString "turn"), (Str.ofString "longer"), (Str.ofString "some"), (Str.ofString "rest"), (Str.ofString "at"), (Str.ofString "key")]
def b_lists_of : List CS := [.set 2 (.lst [(.tup [(.lst []), (.var 0)])]),
    .fo .rng [(.var 1)] (.nm 3) [.own 4 (.lst []),
    .fo .seq [(.var 2)] (.tp [5, 6]) [.ext 4 (.lc [((Str.ofString "at"), 7), ((Str.ofString "key"), 8)] .enu [(.var 6)] (.tp [7, 8]) (.tup [(.bin .add (.var 5) (.lst [(.var 8)])), (.sl (.var 6) (.bin .add (.var 7) (.lit (.int 1))) (.lit .none))]))],
    .clo 4,
    .set 2 (.var 4)],
    .ret (.lc [((Str.ofString "some"), 5), ((Str.ofString "rest"), 6)] .seq [(.var 2)] (.tp [5, 6]) (.var 5))]
def c_lists_of : Cf := ⟨[], []⟩
def f_lists_of : Fu := run c_lists_of 2 9 b_lists_of
/-- text _needed -/
def n_needed : List Str := [(Str.ofString "rules"), (Str.ofString "holding"), (Str.ofString "one"), (Str.ofString "other"), (Str.ofString "many"), (Str.ofString "keys"), (Str.ofString "parting"), (Str.ofString "row")]
def b_needed : List CS := [.exp (.cal 0 [(.var 0), (.var 1)]),
    .ifs (.cmp .gt (.blt .len [(.var 1)]) (.glb 0)) [.bad] [],
    .exp (.cal 1 [(.var 1), (.var 2)]),
    .exp (.cal 1 [(.var 1), (.var 3)]),
    .fo .rng [(.lit (.int 1)), (.bin .add (.blt .len [(.var 1)]) (.lit (.int 1)))] (.nm 4) [.fo .seq [(.cal 2 [(.cal 3 [(.var 1)]), (.var 4)])] (.nm 5) [.ifs (.and (.cmp .isIn (.var 2) (.var 5)) (.one (.cmp .isIn (.var 3) (.var 5)))) [.set 6 (.ix (.cal 4 [(.var 0), (.lcf [((Str.ofString "row"), 7)] .seq [(.var 1)] (.nm 7) (.cmp .isIn (.ix (.var 7) (.lit (.int 0))) (.var 5)) (.var 7))]) (.lit (.int 1))),
    .ifs (.cmp .eq (.cal 5 [(.var 6), (.var 2)]) (.cal 5 [(.var 6), (.var 3)])) [.ret (.var 5)] []] []]],
    .ret (.lit .none)]
def c_needed : Cf := ⟨[((Str.ofString "FEW"), .int 6)], [((Str.ofString "check_both"), f_check_both), ((Str.ofString "check_key"), f_check_key), ((Str.ofString "lists_of"), f_lists_of), ((Str.ofString "keys_of"), f_keys_of), ((Str.ofString "steps_of"), f_steps_of), ((Str.ofString "place_of"), f_place_of)]⟩
def f_needed : Fu := run c_needed 4 8 b_needed
/-- text _law_needed -/
def n_law_needed : List Str := [(Str.ofString "_law_rules_here"), (Str.ofString "_law_holding_here"), (Str.ofString "_law_one"), (Str.ofString "_law_other"), (Str.ofString "_law_lists"), (Str.ofString "_law_key_here"), (Str.ofString "_law_good"), (Str.ofString "_law_keys_here"), (Str.ofString "_law_parting"), (Str.ofString "_law_some"), (Str.ofString "_law_row_here")]
def b_law_needed : List CS := [.set 4 (.lst [(.lst [])]),
    .fo .seq [(.cal 0 [(.var 1)])] (.nm 5) [.set 4 (.bin .add (.var 4) (.lc [((Str.ofString "_law_some"), 9)] .seq [(.var 4)] (.nm 9) (.bin .add (.var 9) (.lst [(.var 5)]))))],
    .own 6 (.lst []),
    .fo .seq [(.var 4)] (.nm 7) [.ifs (.and (.cmp .isIn (.var 2) (.var 7)) (.one (.cmp .isIn (.var 3) (.var 7)))) [.set 8 (.cal 1 [(.var 0), (.lcf [((Str.ofString "_law_row_here"), 10)] .seq [(.var 1)] (.nm 10) (.cmp .isIn (.ix (.var 10) (.lit (.int 0))) (.var 7)) (.var 10))]),
    .ifs (.cmp .eq (.cal 2 [(.var 8), (.var 2)]) (.cal 2 [(.var 8), (.var 3)])) [.app 6 (.tup [(.blt .len [(.var 7)]), (.var 7)])] []] []],
    .clo 6,
    .ret (.ife (.cmp .ne (.var 6) (.lst [])) (.ix (.blt .min [(.var 6)]) (.lit (.int 1))) (.lit .none))]
def c_law_needed : Cf := ⟨[], [((Str.ofString "_law_keys"), f_law_keys), ((Str.ofString "_law_finest"), f_law_finest_3), ((Str.ofString "_law_place"), f_law_place_2)]⟩
def f_law_needed : Fu := run c_law_needed 4 11 b_law_needed
/-- text _law_k08 -/
def n_law_k08 : List Str := [(Str.ofString "_law_script"), (Str.ofString "_law_by_here"), (Str.ofString "_law_six"), (Str.ofString "_law_holding_here"), (Str.ofString "_law_rules_here"), (Str.ofString "_law_keys_here"), (Str.ofString "_law_value_here"), (Str.ofString "_law_handed"), (Str.ofString "_law_mine"), (Str.ofString "_law_one"), (Str.ofString "_law_other"), (Str.ofString "_law_due"), (Str.ofString "_law_again"), (Str.ofString "_law_found"), (Str.ofString "_law_rows"), (Str.ofString "_law_rule")]
def b_law_k08 : List CS := [.set 0 (.sl (.var 0) (.lit .none) (.lit (.int 63))),
    .fo .rng [(.lit (.int 0)), (.blt .max [(.lit (.int 1)), (.blt .min [(.lit (.int 2)), (.blt .len [(.var 0)])])])] (.nm 1) [.set 2 (.bin .fdv (.bin .mod (.cal 0 [(.cal 1 [(.var 0), (.var 1)]), (.lit (.int 16))]) (.lit (.int 8))) (.lit (.int 7))),
    .set 3 (.ife (.cmp .eq (.var 2) (.lit (.int 0))) (.sl (.cal 2 [(.var 0), (.var 1), (.lit (.int 5))]) (.lit .none) (.lit (.int 5))) (.sl (.cal 2 [(.var 0), (.var 1), (.lit (.int 6))]) (.lit .none) (.lit (.int 6)))),
    .set 3 (.or (.var 3) (.one (.lst [(.tup [(.tup [(.lit (.str (Str.ofString "a"))), (.lit (.int 0))]), (.lst [(.lit (.str (Str.ofString "x")))]), (.lst [])])]))),
    .set 4 (.cal 3 [(.var 0), (.bin .add (.var 1) (.lit (.int 1))), (.var 3)]),
    .set 5 (.cal 4 [(.var 3)]),
    .set 6 (.cal 0 [(.cal 1 [(.var 0), (.var 1)]), (.lit (.int 13))]),
    .par [(7, false, (.cal 5 [(.var 3)])), (8, false, (.lc [((Str.ofString "_law_rule"), 15)] .seq [(.var 4)] (.nm 15) (.blt .list [(.var 15)])))],
    .fo .seq [(.tup [(.tup [(.ix (.var 5) (.lit (.int 0))), (.ix (.var 5) (.neg (.lit (.int 1))))]), (.tup [(.ix (.var 5) (.bin .mod (.var 6) (.blt .len [(.var 5)]))), (.ix (.var 5) (.bin .mod (.bin .fdv (.var 6) (.lit (.int 7))) (.blt .len [(.var 5)])))])])] (.tp [9, 10]) [.set 11 (.cal 6 [(.var 4), (.var 3), (.var 9), (.var 10)]),
    .fo .rng [(.lit (.int 2))] (.nm 12) [.own 13 (.new 7 [(.var 8), (.var 7), (.var 9), (.var 10)]),
    .ifs (.or (.pk 13 (.cmp .ne (.var 13) (.var 11))) (.one (.cmp .ne (.lst [(.var 7), (.var 8)]) (.lst [(.var 3), (.var 4)])))) [.ret (.lit (.bool false))] [],
    .ifs (.pk 13 (.cmp .isNot (.var 13) (.lit .none))) [.apu 13 (.lit (.int 0))] []]]],
    .own 14 (.lst [(.tup [(.tup [(.lit (.str (Str.ofString "a"))), (.lit (.int 1))]), (.lst [(.lit (.str (Str.ofString "x"))), (.lit (.str (Str.ofString "p")))]), (.lst [])]), (.tup [(.tup [(.lit (.str (Str.ofString "a"))), (.lit (.int 2))]), (.lst [(.lit (.str (Str.ofString "x"))), (.lit (.str (Str.ofString "q")))]), (.lst [])]), (.tup [(.tup [(.lit (.str (Str.ofString "b"))), (.lit (.int 1))]), (.lst [(.lit (.str (Str.ofString ""))), (.lit (.str (Str.ofString "q")))]), (.lst [])])]),
    .app 14 (.tup [(.tup [(.lit (.str (Str.ofString "c"))), (.lit (.int 1))]), (.lst [(.lit (.str (Str.ofString ""))), (.lit (.str (Str.ofString "q")))]), (.lst [])]),
    .clo 14,
    .ifs (.cmp .ne (.cal 7 [(.lst [(.lst [(.lit (.int 0))]), (.lst [(.lit (.int 1))])]), (.var 14), (.tup [(.lit (.str (Str.ofString "a"))), (.lit (.int 1))]), (.tup [(.lit (.str (Str.ofString "c"))), (.lit (.int 1))])]) (.lst [(.tup [(.lit (.str (Str.ofString "a"))), (.lit (.int 1))]), (.tup [(.lit (.str (Str.ofString "a"))), (.lit (.int 2))]), (.tup [(.lit (.str (Str.ofString "c"))), (.lit (.int 1))])])) [.ret (.lit (.bool false))] [],
    .ret (.and (.cmp .is (.cal 7 [(.lst [(.lst [(.lit (.int 0)), (.lit (.int 1))])]), (.var 14), (.tup [(.lit (.str (Str.ofString "a"))), (.lit (.int 1))]), (.tup [(.lit (.str (Str.ofString "a"))), (.lit (.int 2))])]) (.lit .none)) (.one (.cmp .eq (.cal 7 [(.lst []), (.var 14), (.tup [(.lit (.str (Str.ofString "b"))), (.lit (.int 1))]), (.tup [(.lit (.str (Str.ofString "b"))), (.lit (.int 1))])]) (.lst [(.tup [(.lit (.str (Str.ofString "b"))), (.lit (.int 1))])]))))]
def c_law_k08 : Cf := ⟨[], [((Str.ofString "_law_value"), f_law_value), ((Str.ofString "_law_cell_at"), f_law_cell_at), ((Str.ofString "_law_holding"), f_law_holding_2), ((Str.ofString "_law_rules"), f_law_rules), ((Str.ofString "_law_keys"), f_law_keys), ((Str.ofString "_law_copy"), f_law_copy), ((Str.ofString "_law_needed"), f_law_needed), ((Str.ofString "needed"), f_needed)]⟩
def f_law_k08 : Fu := run c_law_k08 1 16 b_law_k08
/-- text _law_rules_2 -/
def n_law_rules_2 : List Str := [(Str.ofString "_law_script"), (Str.ofString "_law_by"), (Str.ofString "_law_holding_here"), (Str.ofString "_law_wide"), (Str.ofString "_law_found"), (Str.ofString "_law_value_here"), (Str.ofString "_law_at"), (Str.ofString "_law_number"), (Str.ofString "_law_rule"), (Str.ofString "_law_column")]
def b_law_rules_2 : List CS := [.set 3 (.ife (.cmp .ne (.var 2) (.lst [])) (.blt .len [(.ix (.ix (.var 2) (.lit (.int 0))) (.lit (.int 1)))]) (.lit (.int 2))),
    .par [(4, true, (.lst [])), (5, false, (.cal 0 [(.cal 1 [(.var 0), (.var 1)]), (.lit (.int 9))]))],
    .fo .rng [(.bin .mod (.var 5) (.lit (.int 4)))] (.nm 6) [.set 7 (.bin .fdv (.bin .fdv (.var 5) (.lit (.int 4))) (.bin .add (.bin .mul (.lit (.int 7)) (.var 6)) (.lit (.int 1)))),
    .own 8 (.lst []),
    .fo .rng [(.var 3)] (.nm 9) [.ifs (.cmp .eq (.bin .band (.bin .shr (.var 7) (.var 9)) (.lit (.int 1))) (.lit (.int 1))) [.app 8 (.var 9)] []],
    .clo 8,
    .app 4 (.or (.var 8) (.one (.lst [(.bin .mod (.var 7) (.var 3))])))],
    .clo 4,
    .ret (.var 4)]
def c_law_rules_2 : Cf := ⟨[], [((Str.ofString "_law_value"), f_law_value), ((Str.ofString "_law_cell_at"), f_law_cell_at)]⟩
def f_law_rules_2 : Fu := run c_law_rules_2 3 10 b_law_rules_2
/-- text _offices_of -/
def n_offices_of : List Str := [(Str.ofString "holding"), (Str.ofString "found"), (Str.ofString "row"), (Str.ofString "key")]
def b_offices_of : List CS := [.own 1 (.lst []),
    .fo .seq [(.var 0)] (.nm 2) [.ext 1 (.lc [((Str.ofString "key"), 3)] .seq [(.bin .add (.lst [(.ix (.var 2) (.lit (.int 0)))]) (.ix (.var 2) (.lit (.int 2))))] (.nm 3) (.ix (.var 3) (.lit (.int 0))))],
    .clo 1,
    .ret (.sset (.var 1))]
def c_offices_of : Cf := ⟨[], []⟩
def f_offices_of : Fu := run c_offices_of 1 4 b_offices_of
/-- text _is_name -/
def n_is_name : List Str := [(Str.ofString "thing")]
def b_is_name : List CS := [.ret (.and (.isi (.var 0) .tuple) (.and (.cmp .eq (.blt .len [(.var 0)]) (.lit (.int 2))) (.and (.cal 0 [(.ix (.var 0) (.lit (.int 0)))]) (.one (.cal 0 [(.ix (.var 0) (.lit (.int 1)))])))))]
def c_is_name : Cf := ⟨[], [((Str.ofString "is_office"), f_is_office)]⟩
def f_is_name : Fu := run c_is_name 1 1 b_is_name
/-- text _named -/
def n_named : List Str := [(Str.ofString "names"), (Str.ofString "office"), (Str.ofString "old"), (Str.ofString "new")]
def b_named : List CS := [.fo .seq [(.var 0)] (.tp [2, 3]) [.ifs (.cmp .eq (.var 2) (.var 1)) [.ret (.var 3)] []],
    .ret (.var 1)]
def c_named : Cf := ⟨[], []⟩
def f_named : Fu := run c_named 2 4 b_named
/-- text _law_named -/
def n_law_named : List Str := [(Str.ofString "_law_names_here"), (Str.ofString "_law_key_here"), (Str.ofString "_law_old"), (Str.ofString "_law_new")]
def b_law_named : List CS := [.fo .seq [(.var 0)] (.tp [2, 3]) [.ifs (.cmp .eq (.var 2) (.ix (.var 1) (.lit (.int 0)))) [.ret (.tup [(.var 3), (.ix (.var 1) (.lit (.int 1)))])] []],
    .ret (.var 1)]
def c_law_named : Cf := ⟨[], []⟩
def f_law_named : Fu := run c_law_named 2 4 b_law_named
/-- text _law_names -/
def n_law_names : List Str := [(Str.ofString "_law_found")]
def b_law_names : List CS := [.set 0 (.lst [(.lst []), (.lst [(.tup [(.lit (.str (Str.ofString "a"))), (.lit (.str (Str.ofString "b")))])]), (.lst [(.tup [(.lit (.str (Str.ofString "a"))), (.lit (.str (Str.ofString "z")))]), (.tup [(.lit (.str (Str.ofString "z"))), (.lit (.str (Str.ofString "a")))])]), (.lst [(.tup [(.lit (.str (Str.ofString "none"))), (.lit (.str (Str.ofString "a")))])])]),
    .ret (.bin .add (.var 0) (.lst [(.lst [(.tup [(.lit (.str (Str.ofString "a"))), (.lit (.str (Str.ofString "q")))]), (.tup [(.lit (.str (Str.ofString "ab"))), (.lit (.str (Str.ofString "zz")))]), (.tup [(.lit (.str (Str.ofString "officess"))), (.lit (.str (Str.ofString "a")))])])]))]
def c_law_names : Cf := ⟨[], []⟩
def f_law_names : Fu := run c_law_names 0 1 b_law_names
/-- text _law_offices -/
def n_law_offices : List Str := [(Str.ofString "_law_holding_here"), (Str.ofString "_law_found"), (Str.ofString "_law_row_here"), (Str.ofString "_law_key_here")]
def b_law_offices : List CS := [.set 1 (.lst []),
    .fo .seq [(.var 0)] (.nm 2) [.set 1 (.bin .add (.var 1) (.lc [((Str.ofString "_law_key_here"), 3)] .seq [(.bin .add (.lst [(.ix (.var 2) (.lit (.int 0)))]) (.ix (.var 2) (.lit (.int 2))))] (.nm 3) (.ix (.var 3) (.lit (.int 0)))))],
    .ret (.sset (.var 1))]
def c_law_offices : Cf := ⟨[], []⟩
def f_law_offices : Fu := run c_law_offices 1 4 b_law_offices
/-- text _law_due_of -/
def n_law_due_of : List Str := [(Str.ofString "_law_at"), (Str.ofString "_law_one")]
def b_law_due_of : List CS := [.ret (.bin .add (.lc [((Str.ofString "_law_one"), 1)] .rng [(.lit (.int 8))] (.nm 1) (.cmp .eq (.var 0) (.var 1))) (.lst [(.lit (.bool true))]))]
def c_law_due_of : Cf := ⟨[], []⟩
def f_law_due_of : Fu := run c_law_due_of 1 2 b_law_due_of
end T2.Q
end
section
set_option Elab.async false
set_option linter.all false
set_option autoImplicit false
set_option maxRecDepth 100000
namespace T2.Q
open PySem PySem.Spec L2 T2
open T2.Py (enc)
/-! ### rows.py over typed data -/
abbrev LET : Str := Str.ofString "abcdefghijklmnopqrstuvwxyz"
def isWord (z : Str) (l m : Int) : Bool := decide (l ≤ z.length) && (decide ((z.length : Int) ≤ m) && (chars z).all fun c => inS c LET)
def isOffice (z : Str) : Bool := isWord z 1 8
def isKey (k : Ky) : Bool := isOffice k.1 && (decide (0 ≤ k.2) && decide (k.2 ≤ 1000000))
def rising {α : Type} [Py α] (xs : List α) : Bool := (xs.zip (xs.drop 1)).all fun p => ltb p.1 p.2
def areKeys (ks : List Ky) : Bool := ks.all isKey && rising ks
def isRow (r : Row) : Bool := isKey r.a && ((decide (1 ≤ (r.b.length : Int)) && decide ((r.b.length : Int) ≤ 3)) && ((r.b.all fun t => isWord t 0 12) && (areKeys r.c && decide ((r.c.length : Int) ≤ 3))))
def isHolding (h : List Row) : Bool := decide ((h.length : Int) ≤ 10) && (h.all isRow && (rising (h.map (·.a)) && h.all fun r => decide ((r.b.length : Int) = ((h.head?.map (·.b.length)).getD 0 : Nat))))
/-- no text is too long to be asked -/
def fitK (k : Ky) : Prop := k.1.length ≤ sizeLine
def fitR (r : Row) : Prop := fitK r.a ∧ (∀ t ∈ r.b, t.length ≤ sizeLine) ∧ ∀ k ∈ r.c, fitK k
theorem r_is_whole (b : Bool) (i : Int) : f_is_whole [(b, .int i)] = some (true, .bool true) := by
  simp only [f_is_whole, b_is_whole, run, exB, exS, ev, evs, evp, sets, enOf, vl, val_d, val_o, tr_b, tr_l, List.length_cons, List.length_nil, Nat.zero_add, Nat.reduceAdd, Nat.reduceSub, if_true, ite_true, List.map_cons, List.map_nil, List.map_id', Option.bind_some, Option.map_some, List.getElem?_cons_zero, List.getElem?_cons_succ, List.cons_append, List.nil_append, List.append_nil, List.replicate_succ, List.replicate_zero, List.set_cons_zero, List.set_cons_succ, wipeE, tg_nm, tg_2, tg_3, asI, asB, cpr_T, cprT_map, cprT_filter, it_enc, len_enc, isi_list, ix_k0, ix_k1, ix_r0, ix_r1, ix_r2, fold_list, Bool.not_true, Bool.not_false, reduceIte, decide_true, decide_false, Bool.and_true, Bool.and_false, Bool.true_and, Bool.false_and, Bool.or_true, Bool.or_false, Bool.true_or, Bool.false_or, cond_bind, cond_omap, and_b, or_b, chn_b, cond_true, cond_false, thn_nx, thn_rt, res_rt, res_nx, cond_res, cond_arb, isi_ky, isi_row, isi_str, len_ky, len_row, lv_true, lv_list, lv_bool, lv_int, lv_none, lv_str, lv_imm, eq_int, ne_int, eq_str, ne_str, lt_int, le_int, gt_int, ge_int, in_str, nin_str, in_int, nin_int, in_strs, it_zip_enc, it_enum_enc, sl_enc, slP_int, slP_none, val_mkO, mkO_imm, mkD_imm, mkD_list, mkD_row, list_enc, sz0, sz1, sz2, sz3, sz4, sz5, sz8, sz16, fold_row, fold_ky, lvs, List.all_cons, List.all_nil, all_enc, any_benc, mkL_bool, mkL_str, mkL_int, mkL_map, enc_int, enc_str, enc_bool, isiD]
theorem all_map {α : Type} (xs : List α) (f : α → Bool) : (xs.map f).all id = xs.all f := by rw [List.all_map]; rfl
theorem any_map {α : Type} (xs : List α) (f : α → Bool) : (xs.map f).any id = xs.any f := by rw [List.any_map]; rfl
theorem r_is_word (a b c : Bool) (z : Str) (l m : Int) (h : z.length ≤ sizeLine) : f_is_word [(a, .str z), (b, .int l), (c, .int m)] = some (true, .bool (isWord z l m)) := by
  simp only [f_is_word, b_is_word, c_is_word, run, exB, exS, ev, evs, evp, sets, enOf, vl, val_d, val_o, tr_b, tr_l, List.length_cons, List.length_nil, Nat.zero_add, Nat.reduceAdd, Nat.reduceSub, if_true, ite_true, List.map_cons, List.map_nil, List.map_id', Option.bind_some, Option.map_some, List.getElem?_cons_zero, List.getElem?_cons_succ, List.cons_append, List.nil_append, List.append_nil, List.replicate_succ, List.replicate_zero, List.set_cons_zero, List.set_cons_succ, wipeE, tg_nm, tg_2, tg_3, asI, asB, cpr_T, cprT_map, cprT_filter, it_enc, len_enc, isi_list, ix_k0, ix_k1, ix_r0, ix_r1, ix_r2, fold_list, Bool.not_true, Bool.not_false, reduceIte, decide_true, decide_false, Bool.and_true, Bool.and_false, Bool.true_and, Bool.false_and, Bool.or_true, Bool.or_false, Bool.true_or, Bool.false_or, cond_bind, cond_omap, and_b, or_b, chn_b, cond_true, cond_false, thn_nx, thn_rt, res_rt, res_nx, cond_res, cond_arb, isi_ky, isi_row, isi_str, len_ky, len_row, lv_true, lv_list, lv_bool, lv_int, lv_none, lv_str, lv_imm, eq_int, ne_int, eq_str, ne_str, lt_int, le_int, gt_int, ge_int, in_str, nin_str, in_int, nin_int, in_strs, it_zip_enc, it_enum_enc, sl_enc, slP_int, slP_none, val_mkO, mkO_imm, mkD_imm, mkD_list, mkD_row, list_enc, sz0, sz1, sz2, sz3, sz4, sz5, sz8, sz16, fold_row, fold_ky, lvs, List.all_cons, List.all_nil, all_enc, any_benc, mkL_bool, mkL_str, mkL_int, mkL_map, enc_int, enc_str, enc_bool, len_str _ z h, it_chars _ z h, all_map]
  rw [isWord, Bool.and_assoc]
theorem r_is_office (a : Bool) (z : Str) (h : z.length ≤ sizeLine) : f_is_office [(a, .str z)] = some (true, .bool (isOffice z)) := by
  simp only [f_is_office, b_is_office, c_is_office, run, exB, exS, ev, evs, evp, sets, enOf, vl, val_d, val_o, tr_b, tr_l, List.length_cons, List.length_nil, Nat.zero_add, Nat.reduceAdd, Nat.reduceSub, if_true, ite_true, List.map_cons, List.map_nil, List.map_id', Option.bind_some, Option.map_some, List.getElem?_cons_zero, List.getElem?_cons_succ, List.cons_append, List.nil_append, List.append_nil, List.replicate_succ, List.replicate_zero, List.set_cons_zero, List.set_cons_succ, wipeE, tg_nm, tg_2, tg_3, asI, asB, cpr_T, cprT_map, cprT_filter, it_enc, len_enc, isi_list, ix_k0, ix_k1, ix_r0, ix_r1, ix_r2, fold_list, Bool.not_true, Bool.not_false, reduceIte, decide_true, decide_false, Bool.and_true, Bool.and_false, Bool.true_and, Bool.false_and, Bool.or_true, Bool.or_false, Bool.true_or, Bool.false_or, cond_bind, cond_omap, and_b, or_b, chn_b, cond_true, cond_false, thn_nx, thn_rt, res_rt, res_nx, cond_res, cond_arb, isi_ky, isi_row, isi_str, len_ky, len_row, lv_true, lv_list, lv_bool, lv_int, lv_none, lv_str, lv_imm, eq_int, ne_int, eq_str, ne_str, lt_int, le_int, gt_int, ge_int, in_str, nin_str, in_int, nin_int, in_strs, it_zip_enc, it_enum_enc, sl_enc, slP_int, slP_none, val_mkO, mkO_imm, mkD_imm, mkD_list, mkD_row, list_enc, sz0, sz1, sz2, sz3, sz4, sz5, sz8, sz16, fold_row, fold_ky, lvs, List.all_cons, List.all_nil, all_enc, any_benc, mkL_bool, mkL_str, mkL_int, mkL_map, enc_int, enc_str, enc_bool, r_is_word _ _ _ z _ _ h]
  rfl
theorem r_is_key (b : Bool) (k : Ky) (h : fitK k) : f_is_key [(b, enc k)] = some (true, .bool (isKey k)) := by
  simp only [f_is_key, b_is_key, c_is_key, run, exB, exS, ev, evs, evp, sets, enOf, vl, val_d, val_o, tr_b, tr_l, List.length_cons, List.length_nil, Nat.zero_add, Nat.reduceAdd, Nat.reduceSub, if_true, ite_true, List.map_cons, List.map_nil, List.map_id', Option.bind_some, Option.map_some, List.getElem?_cons_zero, List.getElem?_cons_succ, List.cons_append, List.nil_append, List.append_nil, List.replicate_succ, List.replicate_zero, List.set_cons_zero, List.set_cons_succ, wipeE, tg_nm, tg_2, tg_3, asI, asB, cpr_T, cprT_map, cprT_filter, it_enc, len_enc, isi_list, ix_k0, ix_k1, ix_r0, ix_r1, ix_r2, fold_list, Bool.not_true, Bool.not_false, reduceIte, decide_true, decide_false, Bool.and_true, Bool.and_false, Bool.true_and, Bool.false_and, Bool.or_true, Bool.or_false, Bool.true_or, Bool.false_or, cond_bind, cond_omap, and_b, or_b, chn_b, cond_true, cond_false, thn_nx, thn_rt, res_rt, res_nx, cond_res, cond_arb, isi_ky, isi_row, isi_str, len_ky, len_row, lv_true, lv_list, lv_bool, lv_int, lv_none, lv_str, lv_imm, eq_int, ne_int, eq_str, ne_str, lt_int, le_int, gt_int, ge_int, in_str, nin_str, in_int, nin_int, in_strs, it_zip_enc, it_enum_enc, sl_enc, slP_int, slP_none, val_mkO, mkO_imm, mkD_imm, mkD_list, mkD_row, list_enc, sz0, sz1, sz2, sz3, sz4, sz5, sz8, sz16, fold_row, fold_ky, lvs, List.all_cons, List.all_nil, all_enc, any_benc, mkL_bool, mkL_str, mkL_int, mkL_map, enc_int, enc_str, enc_bool, r_is_office _ _ h, r_is_whole]
  rw [isKey]
  cases isOffice k.1 <;> rfl
theorem r_keys_of (b : Bool) (h : List Row) : f_keys_of [(b, enc h)] = some (true, enc (h.map (·.a))) := by
  simp only [f_keys_of, b_keys_of, run, exB, exS, ev, evs, evp, sets, enOf, vl, val_d, val_o, tr_b, tr_l, List.length_cons, List.length_nil, Nat.zero_add, Nat.reduceAdd, Nat.reduceSub, if_true, ite_true, List.map_cons, List.map_nil, List.map_id', Option.bind_some, Option.map_some, List.getElem?_cons_zero, List.getElem?_cons_succ, List.cons_append, List.nil_append, List.append_nil, List.replicate_succ, List.replicate_zero, List.set_cons_zero, List.set_cons_succ, wipeE, tg_nm, tg_2, tg_3, asI, asB, cpr_T, cprT_map, cprT_filter, it_enc, len_enc, isi_list, ix_k0, ix_k1, ix_r0, ix_r1, ix_r2, fold_list, Bool.not_true, Bool.not_false, reduceIte, decide_true, decide_false, Bool.and_true, Bool.and_false, Bool.true_and, Bool.false_and, Bool.or_true, Bool.or_false, Bool.true_or, Bool.false_or, cond_bind, cond_omap, and_b, or_b, chn_b, cond_true, cond_false, thn_nx, thn_rt, res_rt, res_nx, cond_res, cond_arb, isi_ky, isi_row, isi_str, len_ky, len_row, lv_true, lv_list, lv_bool, lv_int, lv_none, lv_str, lv_imm, eq_int, ne_int, eq_str, ne_str, lt_int, le_int, gt_int, ge_int, in_str, nin_str, in_int, nin_int, in_strs, it_zip_enc, it_enum_enc, sl_enc, slP_int, slP_none, val_mkO, mkO_imm, mkD_imm, mkD_list, mkD_row, list_enc, sz0, sz1, sz2, sz3, sz4, sz5, sz8, sz16, fold_row, fold_ky, lvs, List.all_cons, List.all_nil, all_enc, any_benc, mkL_bool, mkL_str, mkL_int, mkL_map, enc_int, enc_str, enc_bool]
theorem r_is_rising {α : Type} [Py α] [PyN α] (b : Bool) (h : List α) (hd : Py.dp α ≤ 60) : f_is_rising [(b, enc h)] = some (true, .bool (rising h)) := by
  simp only [f_is_rising, b_is_rising, run, exB, exS, ev, evs, evp, sets, enOf, vl, val_d, val_o, tr_b, tr_l, List.length_cons, List.length_nil, Nat.zero_add, Nat.reduceAdd, Nat.reduceSub, if_true, ite_true, List.map_cons, List.map_nil, List.map_id', Option.bind_some, Option.map_some, List.getElem?_cons_zero, List.getElem?_cons_succ, List.cons_append, List.nil_append, List.append_nil, List.replicate_succ, List.replicate_zero, List.set_cons_zero, List.set_cons_succ, wipeE, tg_nm, tg_2, tg_3, asI, asB, cpr_T, cprT_map, cprT_filter, it_enc, len_enc, isi_list, ix_k0, ix_k1, ix_r0, ix_r1, ix_r2, fold_list, Bool.not_true, Bool.not_false, reduceIte, decide_true, decide_false, Bool.and_true, Bool.and_false, Bool.true_and, Bool.false_and, Bool.or_true, Bool.or_false, Bool.true_or, Bool.false_or, cond_bind, cond_omap, and_b, or_b, chn_b, cond_true, cond_false, thn_nx, thn_rt, res_rt, res_nx, cond_res, cond_arb, isi_ky, isi_row, isi_str, len_ky, len_row, lv_true, lv_list, lv_bool, lv_int, lv_none, lv_str, lv_imm, eq_int, ne_int, eq_str, ne_str, lt_int, le_int, gt_int, ge_int, in_str, nin_str, in_int, nin_int, in_strs, it_zip_enc, it_enum_enc, sl_enc, slP_int, slP_none, val_mkO, mkO_imm, mkD_imm, mkD_list, mkD_row, list_enc, sz0, sz1, sz2, sz3, sz4, sz5, sz8, sz16, fold_row, fold_ky, lvs, List.all_cons, List.all_nil, all_enc, any_benc, mkL_bool, mkL_str, mkL_int, mkL_map, enc_int, enc_str, enc_bool, lt_enc _ _ hd, all_map]
  rw [show (1 : Int) = ((1 : Nat) : Int) from rfl, cut_from]
  rfl
theorem r_are_keys (b : Bool) (ks : List Ky) (h : ∀ k ∈ ks, fitK k) : f_are_keys [(b, enc ks)] = some (true, .bool (areKeys ks)) := by
  simp only [f_are_keys, b_are_keys, c_are_keys, run, exB, exS, ev, evs, evp, sets, enOf, vl, val_d, val_o, tr_b, tr_l, List.length_cons, List.length_nil, Nat.zero_add, Nat.reduceAdd, Nat.reduceSub, if_true, ite_true, List.map_cons, List.map_nil, List.map_id', Option.bind_some, Option.map_some, List.getElem?_cons_zero, List.getElem?_cons_succ, List.cons_append, List.nil_append, List.append_nil, List.replicate_succ, List.replicate_zero, List.set_cons_zero, List.set_cons_succ, wipeE, tg_nm, tg_2, tg_3, asI, asB, cpr_T, cprT_map, cprT_filter, it_enc, len_enc, isi_list, ix_k0, ix_k1, ix_r0, ix_r1, ix_r2, fold_list, Bool.not_true, Bool.not_false, reduceIte, decide_true, decide_false, Bool.and_true, Bool.and_false, Bool.true_and, Bool.false_and, Bool.or_true, Bool.or_false, Bool.true_or, Bool.false_or, cond_bind, cond_omap, and_b, or_b, chn_b, cond_true, cond_false, thn_nx, thn_rt, res_rt, res_nx, cond_res, cond_arb, isi_ky, isi_row, isi_str, len_ky, len_row, lv_true, lv_list, lv_bool, lv_int, lv_none, lv_str, lv_imm, eq_int, ne_int, eq_str, ne_str, lt_int, le_int, gt_int, ge_int, in_str, nin_str, in_int, nin_int, in_strs, it_zip_enc, it_enum_enc, sl_enc, slP_int, slP_none, val_mkO, mkO_imm, mkD_imm, mkD_list, mkD_row, list_enc, sz0, sz1, sz2, sz3, sz4, sz5, sz8, sz16, fold_row, fold_ky, lvs, List.all_cons, List.all_nil, all_enc, any_benc, mkL_bool, mkL_str, mkL_int, mkL_map, enc_int, enc_str, enc_bool, r_is_rising _ ks (by decide)]
  rw [cprT_on (fun k => (true, .bool (isKey k))) fun k hk => by simp only [r_is_key _ k (h k hk), run, exB, exS, ev, evs, evp, sets, enOf, vl, val_d, val_o, tr_b, tr_l, List.length_cons, List.length_nil, Nat.zero_add, Nat.reduceAdd, Nat.reduceSub, if_true, ite_true, List.map_cons, List.map_nil, List.map_id', Option.bind_some, Option.map_some, List.getElem?_cons_zero, List.getElem?_cons_succ, List.cons_append, List.nil_append, List.append_nil, List.replicate_succ, List.replicate_zero, List.set_cons_zero, List.set_cons_succ, wipeE, tg_nm, tg_2, tg_3, asI, asB, cpr_T, cprT_map, cprT_filter, it_enc, len_enc, isi_list, ix_k0, ix_k1, ix_r0, ix_r1, ix_r2, fold_list, Bool.not_true, Bool.not_false, reduceIte, decide_true, decide_false, Bool.and_true, Bool.and_false, Bool.true_and, Bool.false_and, Bool.or_true, Bool.or_false, Bool.true_or, Bool.false_or, cond_bind, cond_omap, and_b, or_b, chn_b, cond_true, cond_false, thn_nx, thn_rt, res_rt, res_nx, cond_res, cond_arb, isi_ky, isi_row, isi_str, len_ky, len_row, lv_true, lv_list, lv_bool, lv_int, lv_none, lv_str, lv_imm, eq_int, ne_int, eq_str, ne_str, lt_int, le_int, gt_int, ge_int, in_str, nin_str, in_int, nin_int, in_strs, it_zip_enc, it_enum_enc, sl_enc, slP_int, slP_none, val_mkO, mkO_imm, mkD_imm, mkD_list, mkD_row, list_enc, sz0, sz1, sz2, sz3, sz4, sz5, sz8, sz16, fold_row, fold_ky, lvs, List.all_cons, List.all_nil, all_enc, any_benc, mkL_bool, mkL_str, mkL_int, mkL_map, enc_int, enc_str, enc_bool]]
  simp only [run, exB, exS, ev, evs, evp, sets, enOf, vl, val_d, val_o, tr_b, tr_l, List.length_cons, List.length_nil, Nat.zero_add, Nat.reduceAdd, Nat.reduceSub, if_true, ite_true, List.map_cons, List.map_nil, List.map_id', Option.bind_some, Option.map_some, List.getElem?_cons_zero, List.getElem?_cons_succ, List.cons_append, List.nil_append, List.append_nil, List.replicate_succ, List.replicate_zero, List.set_cons_zero, List.set_cons_succ, wipeE, tg_nm, tg_2, tg_3, asI, asB, cpr_T, cprT_map, cprT_filter, it_enc, len_enc, isi_list, ix_k0, ix_k1, ix_r0, ix_r1, ix_r2, fold_list, Bool.not_true, Bool.not_false, reduceIte, decide_true, decide_false, Bool.and_true, Bool.and_false, Bool.true_and, Bool.false_and, Bool.or_true, Bool.or_false, Bool.true_or, Bool.false_or, cond_bind, cond_omap, and_b, or_b, chn_b, cond_true, cond_false, thn_nx, thn_rt, res_rt, res_nx, cond_res, cond_arb, isi_ky, isi_row, isi_str, len_ky, len_row, lv_true, lv_list, lv_bool, lv_int, lv_none, lv_str, lv_imm, eq_int, ne_int, eq_str, ne_str, lt_int, le_int, gt_int, ge_int, in_str, nin_str, in_int, nin_int, in_strs, it_zip_enc, it_enum_enc, sl_enc, slP_int, slP_none, val_mkO, mkO_imm, mkD_imm, mkD_list, mkD_row, list_enc, sz0, sz1, sz2, sz3, sz4, sz5, sz8, sz16, fold_row, fold_ky, lvs, List.all_cons, List.all_nil, all_enc, any_benc, mkL_bool, mkL_str, mkL_int, mkL_map, enc_int, enc_str, enc_bool, all_map]
  rfl
theorem r_is_row (b : Bool) (r : Row) (h : fitR r) : f_is_row [(b, enc r)] = some (true, .bool (isRow r)) := by
  simp only [f_is_row, b_is_row, c_is_row, run, exB, exS, ev, evs, evp, sets, enOf, vl, val_d, val_o, tr_b, tr_l, List.length_cons, List.length_nil, Nat.zero_add, Nat.reduceAdd, Nat.reduceSub, if_true, ite_true, List.map_cons, List.map_nil, List.map_id', Option.bind_some, Option.map_some, List.getElem?_cons_zero, List.getElem?_cons_succ, List.cons_append, List.nil_append, List.append_nil, List.replicate_succ, List.replicate_zero, List.set_cons_zero, List.set_cons_succ, wipeE, tg_nm, tg_2, tg_3, asI, asB, cpr_T, cprT_map, cprT_filter, it_enc, len_enc, isi_list, ix_k0, ix_k1, ix_r0, ix_r1, ix_r2, fold_list, Bool.not_true, Bool.not_false, reduceIte, decide_true, decide_false, Bool.and_true, Bool.and_false, Bool.true_and, Bool.false_and, Bool.or_true, Bool.or_false, Bool.true_or, Bool.false_or, cond_bind, cond_omap, and_b, or_b, chn_b, cond_true, cond_false, thn_nx, thn_rt, res_rt, res_nx, cond_res, cond_arb, isi_ky, isi_row, isi_str, len_ky, len_row, lv_true, lv_list, lv_bool, lv_int, lv_none, lv_str, lv_imm, eq_int, ne_int, eq_str, ne_str, lt_int, le_int, gt_int, ge_int, in_str, nin_str, in_int, nin_int, in_strs, it_zip_enc, it_enum_enc, sl_enc, slP_int, slP_none, val_mkO, mkO_imm, mkD_imm, mkD_list, mkD_row, list_enc, sz0, sz1, sz2, sz3, sz4, sz5, sz8, sz16, fold_row, fold_ky, lvs, List.all_cons, List.all_nil, all_enc, any_benc, mkL_bool, mkL_str, mkL_int, mkL_map, enc_int, enc_str, enc_bool, r_is_key _ _ h.1, r_are_keys _ _ h.2.2]
  rw [cprT_on (fun t => (true, .bool (isWord t 0 12))) fun t ht => by simp only [r_is_word _ _ _ t _ _ (h.2.1 t ht), run, exB, exS, ev, evs, evp, sets, enOf, vl, val_d, val_o, tr_b, tr_l, List.length_cons, List.length_nil, Nat.zero_add, Nat.reduceAdd, Nat.reduceSub, if_true, ite_true, List.map_cons, List.map_nil, List.map_id', Option.bind_some, Option.map_some, List.getElem?_cons_zero, List.getElem?_cons_succ, List.cons_append, List.nil_append, List.append_nil, List.replicate_succ, List.replicate_zero, List.set_cons_zero, List.set_cons_succ, wipeE, tg_nm, tg_2, tg_3, asI, asB, cpr_T, cprT_map, cprT_filter, it_enc, len_enc, isi_list, ix_k0, ix_k1, ix_r0, ix_r1, ix_r2, fold_list, Bool.not_true, Bool.not_false, reduceIte, decide_true, decide_false, Bool.and_true, Bool.and_false, Bool.true_and, Bool.false_and, Bool.or_true, Bool.or_false, Bool.true_or, Bool.false_or, cond_bind, cond_omap, and_b, or_b, chn_b, cond_true, cond_false, thn_nx, thn_rt, res_rt, res_nx, cond_res, cond_arb, isi_ky, isi_row, isi_str, len_ky, len_row, lv_true, lv_list, lv_bool, lv_int, lv_none, lv_str, lv_imm, eq_int, ne_int, eq_str, ne_str, lt_int, le_int, gt_int, ge_int, in_str, nin_str, in_int, nin_int, in_strs, it_zip_enc, it_enum_enc, sl_enc, slP_int, slP_none, val_mkO, mkO_imm, mkD_imm, mkD_list, mkD_row, list_enc, sz0, sz1, sz2, sz3, sz4, sz5, sz8, sz16, fold_row, fold_ky, lvs, List.all_cons, List.all_nil, all_enc, any_benc, mkL_bool, mkL_str, mkL_int, mkL_map, enc_int, enc_str, enc_bool]]
  simp only [run, exB, exS, ev, evs, evp, sets, enOf, vl, val_d, val_o, tr_b, tr_l, List.length_cons, List.length_nil, Nat.zero_add, Nat.reduceAdd, Nat.reduceSub, if_true, ite_true, List.map_cons, List.map_nil, List.map_id', Option.bind_some, Option.map_some, List.getElem?_cons_zero, List.getElem?_cons_succ, List.cons_append, List.nil_append, List.append_nil, List.replicate_succ, List.replicate_zero, List.set_cons_zero, List.set_cons_succ, wipeE, tg_nm, tg_2, tg_3, asI, asB, cpr_T, cprT_map, cprT_filter, it_enc, len_enc, isi_list, ix_k0, ix_k1, ix_r0, ix_r1, ix_r2, fold_list, Bool.not_true, Bool.not_false, reduceIte, decide_true, decide_false, Bool.and_true, Bool.and_false, Bool.true_and, Bool.false_and, Bool.or_true, Bool.or_false, Bool.true_or, Bool.false_or, cond_bind, cond_omap, and_b, or_b, chn_b, cond_true, cond_false, thn_nx, thn_rt, res_rt, res_nx, cond_res, cond_arb, isi_ky, isi_row, isi_str, len_ky, len_row, lv_true, lv_list, lv_bool, lv_int, lv_none, lv_str, lv_imm, eq_int, ne_int, eq_str, ne_str, lt_int, le_int, gt_int, ge_int, in_str, nin_str, in_int, nin_int, in_strs, it_zip_enc, it_enum_enc, sl_enc, slP_int, slP_none, val_mkO, mkO_imm, mkD_imm, mkD_list, mkD_row, list_enc, sz0, sz1, sz2, sz3, sz4, sz5, sz8, sz16, fold_row, fold_ky, lvs, List.all_cons, List.all_nil, all_enc, any_benc, mkL_bool, mkL_str, mkL_int, mkL_map, enc_int, enc_str, enc_bool, all_map]
  rw [isRow]
  cases isKey r.a
  · rfl
  · cases decide (1 ≤ (r.b.length : Int)) && decide ((r.b.length : Int) ≤ 3)
    · rfl
    · cases r.b.all fun t => isWord t 0 12
      · rfl
      · simp only [run, exB, exS, ev, evs, evp, sets, enOf, vl, val_d, val_o, tr_b, tr_l, List.length_cons, List.length_nil, Nat.zero_add, Nat.reduceAdd, Nat.reduceSub, if_true, ite_true, List.map_cons, List.map_nil, List.map_id', Option.bind_some, Option.map_some, List.getElem?_cons_zero, List.getElem?_cons_succ, List.cons_append, List.nil_append, List.append_nil, List.replicate_succ, List.replicate_zero, List.set_cons_zero, List.set_cons_succ, wipeE, tg_nm, tg_2, tg_3, asI, asB, cpr_T, cprT_map, cprT_filter, it_enc, len_enc, isi_list, ix_k0, ix_k1, ix_r0, ix_r1, ix_r2, fold_list, Bool.not_true, Bool.not_false, reduceIte, decide_true, decide_false, Bool.and_true, Bool.and_false, Bool.true_and, Bool.false_and, Bool.or_true, Bool.or_false, Bool.true_or, Bool.false_or, cond_bind, cond_omap, and_b, or_b, chn_b, cond_true, cond_false, thn_nx, thn_rt, res_rt, res_nx, cond_res, cond_arb, isi_ky, isi_row, isi_str, len_ky, len_row, lv_true, lv_list, lv_bool, lv_int, lv_none, lv_str, lv_imm, eq_int, ne_int, eq_str, ne_str, lt_int, le_int, gt_int, ge_int, in_str, nin_str, in_int, nin_int, in_strs, it_zip_enc, it_enum_enc, sl_enc, slP_int, slP_none, val_mkO, mkO_imm, mkD_imm, mkD_list, mkD_row, list_enc, sz0, sz1, sz2, sz3, sz4, sz5, sz8, sz16, fold_row, fold_ky, lvs, List.all_cons, List.all_nil, all_enc, any_benc, mkL_bool, mkL_str, mkL_int, mkL_map, enc_int, enc_str, enc_bool, r_are_keys _ _ h.2.2]
theorem r_copied (b : Bool) (h : List Row) : f_copied [(b, enc h)] = some (true, enc h) := by
  simp only [f_copied, b_copied, run, exB, exS, ev, evs, evp, sets, enOf, vl, val_d, val_o, tr_b, tr_l, List.length_cons, List.length_nil, Nat.zero_add, Nat.reduceAdd, Nat.reduceSub, if_true, ite_true, List.map_cons, List.map_nil, List.map_id', Option.bind_some, Option.map_some, List.getElem?_cons_zero, List.getElem?_cons_succ, List.cons_append, List.nil_append, List.append_nil, List.replicate_succ, List.replicate_zero, List.set_cons_zero, List.set_cons_succ, wipeE, tg_nm, tg_2, tg_3, asI, asB, cpr_T, cprT_map, cprT_filter, it_enc, len_enc, isi_list, ix_k0, ix_k1, ix_r0, ix_r1, ix_r2, fold_list, Bool.not_true, Bool.not_false, reduceIte, decide_true, decide_false, Bool.and_true, Bool.and_false, Bool.true_and, Bool.false_and, Bool.or_true, Bool.or_false, Bool.true_or, Bool.false_or, cond_bind, cond_omap, and_b, or_b, chn_b, cond_true, cond_false, thn_nx, thn_rt, res_rt, res_nx, cond_res, cond_arb, isi_ky, isi_row, isi_str, len_ky, len_row, lv_true, lv_list, lv_bool, lv_int, lv_none, lv_str, lv_imm, eq_int, ne_int, eq_str, ne_str, lt_int, le_int, gt_int, ge_int, in_str, nin_str, in_int, nin_int, in_strs, it_zip_enc, it_enum_enc, sl_enc, slP_int, slP_none, val_mkO, mkO_imm, mkD_imm, mkD_list, mkD_row, list_enc, sz0, sz1, sz2, sz3, sz4, sz5, sz8, sz16, fold_row, fold_ky, lvs, List.all_cons, List.all_nil, all_enc, any_benc, mkL_bool, mkL_str, mkL_int, mkL_map, enc_int, enc_str, enc_bool]
  have : mkL (h.map fun r => (true, (enc r : PyData))) = .o true (h.map enc) := by
    unfold mkL lvs
    rw [List.map_map, List.all_map]
    congr 1
    rw [List.all_eq_true]
    exact fun _ _ => rfl
  rw [this]
  simp only [run, exB, exS, ev, evs, evp, sets, enOf, vl, val_d, val_o, tr_b, tr_l, List.length_cons, List.length_nil, Nat.zero_add, Nat.reduceAdd, Nat.reduceSub, if_true, ite_true, List.map_cons, List.map_nil, List.map_id', Option.bind_some, Option.map_some, List.getElem?_cons_zero, List.getElem?_cons_succ, List.cons_append, List.nil_append, List.append_nil, List.replicate_succ, List.replicate_zero, List.set_cons_zero, List.set_cons_succ, wipeE, tg_nm, tg_2, tg_3, asI, asB, cpr_T, cprT_map, cprT_filter, it_enc, len_enc, isi_list, ix_k0, ix_k1, ix_r0, ix_r1, ix_r2, fold_list, Bool.not_true, Bool.not_false, reduceIte, decide_true, decide_false, Bool.and_true, Bool.and_false, Bool.true_and, Bool.false_and, Bool.or_true, Bool.or_false, Bool.true_or, Bool.false_or, cond_bind, cond_omap, and_b, or_b, chn_b, cond_true, cond_false, thn_nx, thn_rt, res_rt, res_nx, cond_res, cond_arb, isi_ky, isi_row, isi_str, len_ky, len_row, lv_true, lv_list, lv_bool, lv_int, lv_none, lv_str, lv_imm, eq_int, ne_int, eq_str, ne_str, lt_int, le_int, gt_int, ge_int, in_str, nin_str, in_int, nin_int, in_strs, it_zip_enc, it_enum_enc, sl_enc, slP_int, slP_none, val_mkO, mkO_imm, mkD_imm, mkD_list, mkD_row, list_enc, sz0, sz1, sz2, sz3, sz4, sz5, sz8, sz16, fold_row, fold_ky, lvs, List.all_cons, List.all_nil, all_enc, any_benc, mkL_bool, mkL_str, mkL_int, mkL_map, enc_int, enc_str, enc_bool]
theorem r_is_holding (b : Bool) (h : List Row) (hf : ∀ r ∈ h, fitR r) : f_is_holding [(b, enc h)] = some (true, .bool (isHolding h)) := by
  simp only [f_is_holding, b_is_holding, c_is_holding, run, exB, exS, ev, evs, evp, sets, enOf, vl, val_d, val_o, tr_b, tr_l, List.length_cons, List.length_nil, Nat.zero_add, Nat.reduceAdd, Nat.reduceSub, if_true, ite_true, List.map_cons, List.map_nil, List.map_id', Option.bind_some, Option.map_some, List.getElem?_cons_zero, List.getElem?_cons_succ, List.cons_append, List.nil_append, List.append_nil, List.replicate_succ, List.replicate_zero, List.set_cons_zero, List.set_cons_succ, wipeE, tg_nm, tg_2, tg_3, asI, asB, cpr_T, cprT_map, cprT_filter, it_enc, len_enc, isi_list, ix_k0, ix_k1, ix_r0, ix_r1, ix_r2, fold_list, Bool.not_true, Bool.not_false, reduceIte, decide_true, decide_false, Bool.and_true, Bool.and_false, Bool.true_and, Bool.false_and, Bool.or_true, Bool.or_false, Bool.true_or, Bool.false_or, cond_bind, cond_omap, and_b, or_b, chn_b, cond_true, cond_false, thn_nx, thn_rt, res_rt, res_nx, cond_res, cond_arb, isi_ky, isi_row, isi_str, len_ky, len_row, lv_true, lv_list, lv_bool, lv_int, lv_none, lv_str, lv_imm, eq_int, ne_int, eq_str, ne_str, lt_int, le_int, gt_int, ge_int, in_str, nin_str, in_int, nin_int, in_strs, it_zip_enc, it_enum_enc, sl_enc, slP_int, slP_none, val_mkO, mkO_imm, mkD_imm, mkD_list, mkD_row, list_enc, sz0, sz1, sz2, sz3, sz4, sz5, sz8, sz16, fold_row, fold_ky, lvs, List.all_cons, List.all_nil, all_enc, any_benc, mkL_bool, mkL_str, mkL_int, mkL_map, enc_int, enc_str, enc_bool]
  rw [cprT_on (fun r => (true, .bool (isRow r))) fun r hr => by simp only [r_is_row _ r (hf r hr), run, exB, exS, ev, evs, evp, sets, enOf, vl, val_d, val_o, tr_b, tr_l, List.length_cons, List.length_nil, Nat.zero_add, Nat.reduceAdd, Nat.reduceSub, if_true, ite_true, List.map_cons, List.map_nil, List.map_id', Option.bind_some, Option.map_some, List.getElem?_cons_zero, List.getElem?_cons_succ, List.cons_append, List.nil_append, List.append_nil, List.replicate_succ, List.replicate_zero, List.set_cons_zero, List.set_cons_succ, wipeE, tg_nm, tg_2, tg_3, asI, asB, cpr_T, cprT_map, cprT_filter, it_enc, len_enc, isi_list, ix_k0, ix_k1, ix_r0, ix_r1, ix_r2, fold_list, Bool.not_true, Bool.not_false, reduceIte, decide_true, decide_false, Bool.and_true, Bool.and_false, Bool.true_and, Bool.false_and, Bool.or_true, Bool.or_false, Bool.true_or, Bool.false_or, cond_bind, cond_omap, and_b, or_b, chn_b, cond_true, cond_false, thn_nx, thn_rt, res_rt, res_nx, cond_res, cond_arb, isi_ky, isi_row, isi_str, len_ky, len_row, lv_true, lv_list, lv_bool, lv_int, lv_none, lv_str, lv_imm, eq_int, ne_int, eq_str, ne_str, lt_int, le_int, gt_int, ge_int, in_str, nin_str, in_int, nin_int, in_strs, it_zip_enc, it_enum_enc, sl_enc, slP_int, slP_none, val_mkO, mkO_imm, mkD_imm, mkD_list, mkD_row, list_enc, sz0, sz1, sz2, sz3, sz4, sz5, sz8, sz16, fold_row, fold_ky, lvs, List.all_cons, List.all_nil, all_enc, any_benc, mkL_bool, mkL_str, mkL_int, mkL_map, enc_int, enc_str, enc_bool]]
  simp only [run, exB, exS, ev, evs, evp, sets, enOf, vl, val_d, val_o, tr_b, tr_l, List.length_cons, List.length_nil, Nat.zero_add, Nat.reduceAdd, Nat.reduceSub, if_true, ite_true, List.map_cons, List.map_nil, List.map_id', Option.bind_some, Option.map_some, List.getElem?_cons_zero, List.getElem?_cons_succ, List.cons_append, List.nil_append, List.append_nil, List.replicate_succ, List.replicate_zero, List.set_cons_zero, List.set_cons_succ, wipeE, tg_nm, tg_2, tg_3, asI, asB, cpr_T, cprT_map, cprT_filter, it_enc, len_enc, isi_list, ix_k0, ix_k1, ix_r0, ix_r1, ix_r2, fold_list, Bool.not_true, Bool.not_false, reduceIte, decide_true, decide_false, Bool.and_true, Bool.and_false, Bool.true_and, Bool.false_and, Bool.or_true, Bool.or_false, Bool.true_or, Bool.false_or, cond_bind, cond_omap, and_b, or_b, chn_b, cond_true, cond_false, thn_nx, thn_rt, res_rt, res_nx, cond_res, cond_arb, isi_ky, isi_row, isi_str, len_ky, len_row, lv_true, lv_list, lv_bool, lv_int, lv_none, lv_str, lv_imm, eq_int, ne_int, eq_str, ne_str, lt_int, le_int, gt_int, ge_int, in_str, nin_str, in_int, nin_int, in_strs, it_zip_enc, it_enum_enc, sl_enc, slP_int, slP_none, val_mkO, mkO_imm, mkD_imm, mkD_list, mkD_row, list_enc, sz0, sz1, sz2, sz3, sz4, sz5, sz8, sz16, fold_row, fold_ky, lvs, List.all_cons, List.all_nil, all_enc, any_benc, mkL_bool, mkL_str, mkL_int, mkL_map, enc_int, enc_str, enc_bool, all_map, r_is_rising _ _ (show Py.dp Ky ≤ 60 by decide)]
  have e1 : decide ((10 : Int) < (h.length : Int)) = !decide ((h.length : Int) ≤ 10) := by
    by_cases z : (h.length : Int) ≤ 10
    · have : ¬ (10 : Int) < h.length := by omega
      simp [z, this]
    · have : (10 : Int) < h.length := by omega
      simp [z, this]
  rw [e1, isHolding]
  cases decide ((h.length : Int) ≤ 10)
  · rfl
  · cases h.all isRow
    · rfl
    · cases rising (h.map (·.a))
      · rfl
      · cases hh : h.head? with
        | none =>
          have : h = [] := List.head?_eq_none_iff.mp hh
          subst this
          rfl
        | some r0 =>
          have h0 : h[0]? = some r0 := by rw [← List.head?_eq_getElem?]; exact hh
          have ix : ∀ c, ixD (c, enc h) 0 = some (.d c (enc r0)) := fun c => by
            have := ix_nat c h 0 h0
            rw [mkD_row] at this
            exact this
          simp only [run, exB, exS, ev, evs, evp, sets, enOf, vl, val_d, val_o, tr_b, tr_l, List.length_cons, List.length_nil, Nat.zero_add, Nat.reduceAdd, Nat.reduceSub, if_true, ite_true, List.map_cons, List.map_nil, List.map_id', Option.bind_some, Option.map_some, List.getElem?_cons_zero, List.getElem?_cons_succ, List.cons_append, List.nil_append, List.append_nil, List.replicate_succ, List.replicate_zero, List.set_cons_zero, List.set_cons_succ, wipeE, tg_nm, tg_2, tg_3, asI, asB, cpr_T, cprT_map, cprT_filter, it_enc, len_enc, isi_list, ix_k0, ix_k1, ix_r0, ix_r1, ix_r2, fold_list, Bool.not_true, Bool.not_false, reduceIte, decide_true, decide_false, Bool.and_true, Bool.and_false, Bool.true_and, Bool.false_and, Bool.or_true, Bool.or_false, Bool.true_or, Bool.false_or, cond_bind, cond_omap, and_b, or_b, chn_b, cond_true, cond_false, thn_nx, thn_rt, res_rt, res_nx, cond_res, cond_arb, isi_ky, isi_row, isi_str, len_ky, len_row, lv_true, lv_list, lv_bool, lv_int, lv_none, lv_str, lv_imm, eq_int, ne_int, eq_str, ne_str, lt_int, le_int, gt_int, ge_int, in_str, nin_str, in_int, nin_int, in_strs, it_zip_enc, it_enum_enc, sl_enc, slP_int, slP_none, val_mkO, mkO_imm, mkD_imm, mkD_list, mkD_row, list_enc, sz0, sz1, sz2, sz3, sz4, sz5, sz8, sz16, fold_row, fold_ky, lvs, List.all_cons, List.all_nil, all_enc, any_benc, mkL_bool, mkL_str, mkL_int, mkL_map, enc_int, enc_str, enc_bool, ix, all_map, Option.getD_some]
theorem r_check_holding (b : Bool) (h : List Row) (hf : ∀ r ∈ h, fitR r) (ok : isHolding h = true) : f_check_holding [(b, enc h)] = some (true, .none) := by
  simp only [f_check_holding, b_check_holding, c_check_holding, run, exB, exS, ev, evs, evp, sets, enOf, vl, val_d, val_o, tr_b, tr_l, List.length_cons, List.length_nil, Nat.zero_add, Nat.reduceAdd, Nat.reduceSub, if_true, ite_true, List.map_cons, List.map_nil, List.map_id', Option.bind_some, Option.map_some, List.getElem?_cons_zero, List.getElem?_cons_succ, List.cons_append, List.nil_append, List.append_nil, List.replicate_succ, List.replicate_zero, List.set_cons_zero, List.set_cons_succ, wipeE, tg_nm, tg_2, tg_3, asI, asB, cpr_T, cprT_map, cprT_filter, it_enc, len_enc, isi_list, ix_k0, ix_k1, ix_r0, ix_r1, ix_r2, fold_list, Bool.not_true, Bool.not_false, reduceIte, decide_true, decide_false, Bool.and_true, Bool.and_false, Bool.true_and, Bool.false_and, Bool.or_true, Bool.or_false, Bool.true_or, Bool.false_or, cond_bind, cond_omap, and_b, or_b, chn_b, cond_true, cond_false, thn_nx, thn_rt, res_rt, res_nx, cond_res, cond_arb, isi_ky, isi_row, isi_str, len_ky, len_row, lv_true, lv_list, lv_bool, lv_int, lv_none, lv_str, lv_imm, eq_int, ne_int, eq_str, ne_str, lt_int, le_int, gt_int, ge_int, in_str, nin_str, in_int, nin_int, in_strs, it_zip_enc, it_enum_enc, sl_enc, slP_int, slP_none, val_mkO, mkO_imm, mkD_imm, mkD_list, mkD_row, list_enc, sz0, sz1, sz2, sz3, sz4, sz5, sz8, sz16, fold_row, fold_ky, lvs, List.all_cons, List.all_nil, all_enc, any_benc, mkL_bool, mkL_str, mkL_int, mkL_map, enc_int, enc_str, enc_bool, r_is_holding b h hf, ok]
end T2.Q
end
section
set_option Elab.async false
set_option linter.all false
set_option autoImplicit false
set_option maxRecDepth 100000
namespace T2.Q
open PySem PySem.Spec L2 T2
open T2.Py (enc)
/-! ### holdings.py over typed data -/
/-- what is a holding, and its texts not too long to be asked -/
structure Hold (h : List Row) : Prop where
  fit : ∀ r ∈ h, fitR r
  ok : isHolding h = true
def keysL (h : List Row) : List Ky := h.map (·.a)
def lostL (h : List Row) : List Ky := h.flatMap fun r => r.c.filter fun k => !isIn k (keysL h)
theorem isHolding_len {h : List Row} (H : isHolding h = true) : h.length ≤ 10 := by
  simp only [isHolding, Bool.and_eq_true, decide_eq_true_eq] at H
  omega
theorem isHolding_row {h : List Row} (H : isHolding h = true) {r : Row} (hr : r ∈ h) : isRow r = true := by
  simp only [isHolding, Bool.and_eq_true, List.all_eq_true] at H
  exact H.2.1 r hr
theorem isRow_pts {r : Row} (h : isRow r = true) : r.c.length ≤ 3 := by
  simp only [isRow, Bool.and_eq_true, decide_eq_true_eq] at h
  omega
theorem lost_len {h : List Row} (H : isHolding h = true) : ∀ l : List Row, (∀ r ∈ l, r ∈ h) → (l.flatMap fun r => r.c.filter fun k => !isIn k (keysL h)).length ≤ 3 * l.length
  | [], _ => by simp
  | r :: l, hl => by
    have h1 := lost_len H l fun x hx => hl x (List.mem_cons_of_mem _ hx)
    have h2 := isRow_pts (isHolding_row H (hl r List.mem_cons_self))
    have h3 := List.length_filter_le (fun k => !isIn k (keysL h)) r.c
    rw [List.flatMap_cons, List.length_append, List.length_cons]
    omega
theorem asStrs_str (xs : List Str) : asStrs (xs.map enc) = some xs := by
  induction xs with
  | nil => rfl
  | cons x xs ih => rw [List.map_cons, enc_str, asStrs, ih]; rfl
theorem asStrs_ky (x : Ky) (xs : List Ky) : asStrs ((x :: xs).map enc) = none := rfl
theorem asKeys_ky (xs : List Ky) : asKeys (xs.map enc) = some xs := by
  induction xs with
  | nil => rfl
  | cons x xs ih => rw [List.map_cons, enc_ky, asKeys, ih]; rfl
theorem sset_str (xs : List Str) (h : xs.length < 64) : ssetD (enc xs) = some (.o true ((sset xs).map enc)) := by
  show (match asStrs (xs.map enc) with
    | some zs => if zs.length < 64 then some (En.o true ((sset zs).map enc)) else none
    | none => match asKeys (xs.map enc) with
      | some zs => if zs.length < 64 then some (En.o true ((sset zs).map enc)) else none
      | none => none) = _
  rw [asStrs_str]
  simp only [if_pos h]
theorem sset_ky (xs : List Ky) (h : xs.length < 64) : ssetD (enc xs) = some (.o true ((sset xs).map enc)) := by
  show (match asStrs (xs.map enc) with
    | some zs => if zs.length < 64 then some (En.o true ((sset zs).map enc)) else none
    | none => match asKeys (xs.map enc) with
      | some zs => if zs.length < 64 then some (En.o true ((sset zs).map enc)) else none
      | none => none) = _
  cases xs with
  | nil => simp [asStrs, sset, dd, srt]
  | cons x xs =>
    rw [asStrs_ky, asKeys_ky]
    simp only [if_pos h]
theorem r_of_offices (b c : Bool) (h : List Row) (os : List Str) (H : Hold h) (f : ∀ x ∈ os, x.length ≤ sizeLine) (o1 : os.all isOffice = true) (o2 : rising os = true) : f_of_offices [(b, enc h), (c, enc os)] = some (true, enc (h.filter fun r => isIn r.a.1 os)) := by
  simp only [f_of_offices, b_of_offices, c_of_offices, run, exB, exS, ev, evs, evp, sets, enOf, vl, val_d, val_o, tr_b, tr_l, List.length_cons, List.length_nil, Nat.zero_add, Nat.reduceAdd, Nat.reduceSub, if_true, ite_true, List.map_cons, List.map_nil, List.map_id', Option.bind_some, Option.map_some, List.getElem?_cons_zero, List.getElem?_cons_succ, List.cons_append, List.nil_append, List.append_nil, List.replicate_succ, List.replicate_zero, List.set_cons_zero, List.set_cons_succ, wipeE, tg_nm, tg_2, tg_3, asI, asB, cpr_T, cprT_map, cprT_filter, it_enc, len_enc, isi_list, ix_k0, ix_k1, ix_r0, ix_r1, ix_r2, fold_list, Bool.not_true, Bool.not_false, reduceIte, decide_true, decide_false, Bool.and_true, Bool.and_false, Bool.true_and, Bool.false_and, Bool.or_true, Bool.or_false, Bool.true_or, Bool.false_or, cond_bind, cond_omap, and_b, or_b, chn_b, cond_true, cond_false, thn_nx, thn_rt, res_rt, res_nx, cond_res, cond_arb, isi_ky, isi_row, isi_str, len_ky, len_row, lv_true, lv_list, lv_bool, lv_int, lv_none, lv_str, lv_imm, eq_int, ne_int, eq_str, ne_str, lt_int, le_int, gt_int, ge_int, in_str, nin_str, in_int, nin_int, in_strs, it_zip_enc, it_enum_enc, sl_enc, slP_int, slP_none, val_mkO, mkO_imm, mkD_imm, mkD_list, mkD_row, list_enc, sz0, sz1, sz2, sz3, sz4, sz5, sz8, sz16, fold_row, fold_ky, lvs, List.all_cons, List.all_nil, all_enc, any_benc, mkL_bool, mkL_str, mkL_int, mkL_map, enc_int, enc_str, enc_bool, r_check_holding b h H.fit H.ok]
  rw [cprT_on (fun x => (true, .bool (isOffice x))) fun x hx => by simp only [r_is_office _ x (f x hx), run, exB, exS, ev, evs, evp, sets, enOf, vl, val_d, val_o, tr_b, tr_l, List.length_cons, List.length_nil, Nat.zero_add, Nat.reduceAdd, Nat.reduceSub, if_true, ite_true, List.map_cons, List.map_nil, List.map_id', Option.bind_some, Option.map_some, List.getElem?_cons_zero, List.getElem?_cons_succ, List.cons_append, List.nil_append, List.append_nil, List.replicate_succ, List.replicate_zero, List.set_cons_zero, List.set_cons_succ, wipeE, tg_nm, tg_2, tg_3, asI, asB, cpr_T, cprT_map, cprT_filter, it_enc, len_enc, isi_list, ix_k0, ix_k1, ix_r0, ix_r1, ix_r2, fold_list, Bool.not_true, Bool.not_false, reduceIte, decide_true, decide_false, Bool.and_true, Bool.and_false, Bool.true_and, Bool.false_and, Bool.or_true, Bool.or_false, Bool.true_or, Bool.false_or, cond_bind, cond_omap, and_b, or_b, chn_b, cond_true, cond_false, thn_nx, thn_rt, res_rt, res_nx, cond_res, cond_arb, isi_ky, isi_row, isi_str, len_ky, len_row, lv_true, lv_list, lv_bool, lv_int, lv_none, lv_str, lv_imm, eq_int, ne_int, eq_str, ne_str, lt_int, le_int, gt_int, ge_int, in_str, nin_str, in_int, nin_int, in_strs, it_zip_enc, it_enum_enc, sl_enc, slP_int, slP_none, val_mkO, mkO_imm, mkD_imm, mkD_list, mkD_row, list_enc, sz0, sz1, sz2, sz3, sz4, sz5, sz8, sz16, fold_row, fold_ky, lvs, List.all_cons, List.all_nil, all_enc, any_benc, mkL_bool, mkL_str, mkL_int, mkL_map, enc_int, enc_str, enc_bool]]
  simp only [run, exB, exS, ev, evs, evp, sets, enOf, vl, val_d, val_o, tr_b, tr_l, List.length_cons, List.length_nil, Nat.zero_add, Nat.reduceAdd, Nat.reduceSub, if_true, ite_true, List.map_cons, List.map_nil, List.map_id', Option.bind_some, Option.map_some, List.getElem?_cons_zero, List.getElem?_cons_succ, List.cons_append, List.nil_append, List.append_nil, List.replicate_succ, List.replicate_zero, List.set_cons_zero, List.set_cons_succ, wipeE, tg_nm, tg_2, tg_3, asI, asB, cpr_T, cprT_map, cprT_filter, it_enc, len_enc, isi_list, ix_k0, ix_k1, ix_r0, ix_r1, ix_r2, fold_list, Bool.not_true, Bool.not_false, reduceIte, decide_true, decide_false, Bool.and_true, Bool.and_false, Bool.true_and, Bool.false_and, Bool.or_true, Bool.or_false, Bool.true_or, Bool.false_or, cond_bind, cond_omap, and_b, or_b, chn_b, cond_true, cond_false, thn_nx, thn_rt, res_rt, res_nx, cond_res, cond_arb, isi_ky, isi_row, isi_str, len_ky, len_row, lv_true, lv_list, lv_bool, lv_int, lv_none, lv_str, lv_imm, eq_int, ne_int, eq_str, ne_str, lt_int, le_int, gt_int, ge_int, in_str, nin_str, in_int, nin_int, in_strs, it_zip_enc, it_enum_enc, sl_enc, slP_int, slP_none, val_mkO, mkO_imm, mkD_imm, mkD_list, mkD_row, list_enc, sz0, sz1, sz2, sz3, sz4, sz5, sz8, sz16, fold_row, fold_ky, lvs, List.all_cons, List.all_nil, all_enc, any_benc, mkL_bool, mkL_str, mkL_int, mkL_map, enc_int, enc_str, enc_bool, all_map, o1, r_is_rising _ os (show Py.dp Str ≤ 60 by decide), o2]
  have : ∃ l, mkL ((h.filter fun r => isIn r.a.1 os).map fun r => (b, (enc r : PyData))) = .o l ((h.filter fun r => isIn r.a.1 os).map enc) := by
    refine ⟨lvs ((h.filter fun r => isIn r.a.1 os).map fun r => (b, (enc r : PyData))), ?_⟩
    unfold mkL
    rw [List.map_map]
    rfl
  obtain ⟨l, e⟩ := this
  rw [e]
  simp only [run, exB, exS, ev, evs, evp, sets, enOf, vl, val_d, val_o, tr_b, tr_l, List.length_cons, List.length_nil, Nat.zero_add, Nat.reduceAdd, Nat.reduceSub, if_true, ite_true, List.map_cons, List.map_nil, List.map_id', Option.bind_some, Option.map_some, List.getElem?_cons_zero, List.getElem?_cons_succ, List.cons_append, List.nil_append, List.append_nil, List.replicate_succ, List.replicate_zero, List.set_cons_zero, List.set_cons_succ, wipeE, tg_nm, tg_2, tg_3, asI, asB, cpr_T, cprT_map, cprT_filter, it_enc, len_enc, isi_list, ix_k0, ix_k1, ix_r0, ix_r1, ix_r2, fold_list, Bool.not_true, Bool.not_false, reduceIte, decide_true, decide_false, Bool.and_true, Bool.and_false, Bool.true_and, Bool.false_and, Bool.or_true, Bool.or_false, Bool.true_or, Bool.false_or, cond_bind, cond_omap, and_b, or_b, chn_b, cond_true, cond_false, thn_nx, thn_rt, res_rt, res_nx, cond_res, cond_arb, isi_ky, isi_row, isi_str, len_ky, len_row, lv_true, lv_list, lv_bool, lv_int, lv_none, lv_str, lv_imm, eq_int, ne_int, eq_str, ne_str, lt_int, le_int, gt_int, ge_int, in_str, nin_str, in_int, nin_int, in_strs, it_zip_enc, it_enum_enc, sl_enc, slP_int, slP_none, val_mkO, mkO_imm, mkD_imm, mkD_list, mkD_row, list_enc, sz0, sz1, sz2, sz3, sz4, sz5, sz8, sz16, fold_row, fold_ky, lvs, List.all_cons, List.all_nil, all_enc, any_benc, mkL_bool, mkL_str, mkL_int, mkL_map, enc_int, enc_str, enc_bool, r_copied]
theorem r_lost (b : Bool) (h : List Row) (H : Hold h) : f_lost [(b, enc h)] = some (true, enc (sset (lostL h))) := by
  simp only [f_lost, b_lost, c_lost, run, exB, exS, ev, evs, evp, sets, enOf, vl, val_d, val_o, tr_b, tr_l, List.length_cons, List.length_nil, Nat.zero_add, Nat.reduceAdd, Nat.reduceSub, if_true, ite_true, List.map_cons, List.map_nil, List.map_id', Option.bind_some, Option.map_some, List.getElem?_cons_zero, List.getElem?_cons_succ, List.cons_append, List.nil_append, List.append_nil, List.replicate_succ, List.replicate_zero, List.set_cons_zero, List.set_cons_succ, wipeE, tg_nm, tg_2, tg_3, asI, asB, cpr_T, cprT_map, cprT_filter, it_enc, len_enc, isi_list, ix_k0, ix_k1, ix_r0, ix_r1, ix_r2, fold_list, Bool.not_true, Bool.not_false, reduceIte, decide_true, decide_false, Bool.and_true, Bool.and_false, Bool.true_and, Bool.false_and, Bool.or_true, Bool.or_false, Bool.true_or, Bool.false_or, cond_bind, cond_omap, and_b, or_b, chn_b, cond_true, cond_false, thn_nx, thn_rt, res_rt, res_nx, cond_res, cond_arb, isi_ky, isi_row, isi_str, len_ky, len_row, lv_true, lv_list, lv_bool, lv_int, lv_none, lv_str, lv_imm, eq_int, ne_int, eq_str, ne_str, lt_int, le_int, gt_int, ge_int, in_str, nin_str, in_int, nin_int, in_strs, it_zip_enc, it_enum_enc, sl_enc, slP_int, slP_none, val_mkO, mkO_imm, mkD_imm, mkD_list, mkD_row, list_enc, sz0, sz1, sz2, sz3, sz4, sz5, sz8, sz16, fold_row, fold_ky, lvs, List.all_cons, List.all_nil, all_enc, any_benc, mkL_bool, mkL_str, mkL_int, mkL_map, enc_int, enc_str, enc_bool, r_check_holding b h H.fit H.ok, r_keys_of]
  refine lop_bb (e := enc) (fun done Γ => ∃ v, Γ = [.d b (enc h), .d true (enc (keysL h)), .o true ((done.flatMap fun r => r.c.filter fun k => !isIn k (keysL h)).map enc), v, .no]) ⟨.no, rfl⟩ ?_ ?_
  · rintro d x r Γ hd ⟨v, rfl⟩
    refine ⟨_, ?_, .d b (enc x), rfl⟩
    have l1 := lost_len H.ok d fun y hy => by rw [hd]; exact List.mem_append_left _ hy
    have l2 := isRow_pts (isHolding_row H.ok (r := x) (by rw [hd]; simp))
    have l3 := List.length_filter_le (fun k => !isIn k (keysL h)) x.c
    have l4 := isHolding_len H.ok
    have l5 : d.length ≤ h.length := by rw [hd]; simp
    have hs : 100 ≤ sizeLine := by decide
    simp only [run, exB, exS, ev, evs, evp, sets, enOf, vl, val_d, val_o, tr_b, tr_l, List.length_cons, List.length_nil, Nat.zero_add, Nat.reduceAdd, Nat.reduceSub, if_true, ite_true, List.map_cons, List.map_nil, List.map_id', Option.bind_some, Option.map_some, List.getElem?_cons_zero, List.getElem?_cons_succ, List.cons_append, List.nil_append, List.append_nil, List.replicate_succ, List.replicate_zero, List.set_cons_zero, List.set_cons_succ, wipeE, tg_nm, tg_2, tg_3, asI, asB, cpr_T, cprT_map, cprT_filter, it_enc, len_enc, isi_list, ix_k0, ix_k1, ix_r0, ix_r1, ix_r2, fold_list, Bool.not_true, Bool.not_false, reduceIte, decide_true, decide_false, Bool.and_true, Bool.and_false, Bool.true_and, Bool.false_and, Bool.or_true, Bool.or_false, Bool.true_or, Bool.false_or, cond_bind, cond_omap, and_b, or_b, chn_b, cond_true, cond_false, thn_nx, thn_rt, res_rt, res_nx, cond_res, cond_arb, isi_ky, isi_row, isi_str, len_ky, len_row, lv_true, lv_list, lv_bool, lv_int, lv_none, lv_str, lv_imm, eq_int, ne_int, eq_str, ne_str, lt_int, le_int, gt_int, ge_int, in_str, nin_str, in_int, nin_int, in_strs, it_zip_enc, it_enum_enc, sl_enc, slP_int, slP_none, val_mkO, mkO_imm, mkD_imm, mkD_list, mkD_row, list_enc, sz0, sz1, sz2, sz3, sz4, sz5, sz8, sz16, fold_row, fold_ky, lvs, List.all_cons, List.all_nil, all_enc, any_benc, mkL_bool, mkL_str, mkL_int, mkL_map, enc_int, enc_str, enc_bool, nin_enc _ _ (show Py.dp Ky ≤ 60 by decide), groL, List.length_map]
    rw [if_pos (by simp only [keysL] at *; omega)]
    simp only [run, exB, exS, ev, evs, evp, sets, enOf, vl, val_d, val_o, tr_b, tr_l, List.length_cons, List.length_nil, Nat.zero_add, Nat.reduceAdd, Nat.reduceSub, if_true, ite_true, List.map_cons, List.map_nil, List.map_id', Option.bind_some, Option.map_some, List.getElem?_cons_zero, List.getElem?_cons_succ, List.cons_append, List.nil_append, List.append_nil, List.replicate_succ, List.replicate_zero, List.set_cons_zero, List.set_cons_succ, wipeE, tg_nm, tg_2, tg_3, asI, asB, cpr_T, cprT_map, cprT_filter, it_enc, len_enc, isi_list, ix_k0, ix_k1, ix_r0, ix_r1, ix_r2, fold_list, Bool.not_true, Bool.not_false, reduceIte, decide_true, decide_false, Bool.and_true, Bool.and_false, Bool.true_and, Bool.false_and, Bool.or_true, Bool.or_false, Bool.true_or, Bool.false_or, cond_bind, cond_omap, and_b, or_b, chn_b, cond_true, cond_false, thn_nx, thn_rt, res_rt, res_nx, cond_res, cond_arb, isi_ky, isi_row, isi_str, len_ky, len_row, lv_true, lv_list, lv_bool, lv_int, lv_none, lv_str, lv_imm, eq_int, ne_int, eq_str, ne_str, lt_int, le_int, gt_int, ge_int, in_str, nin_str, in_int, nin_int, in_strs, it_zip_enc, it_enum_enc, sl_enc, slP_int, slP_none, val_mkO, mkO_imm, mkD_imm, mkD_list, mkD_row, list_enc, sz0, sz1, sz2, sz3, sz4, sz5, sz8, sz16, fold_row, fold_ky, lvs, List.all_cons, List.all_nil, all_enc, any_benc, mkL_bool, mkL_str, mkL_int, mkL_map, enc_int, enc_str, enc_bool, List.flatMap_append, List.flatMap_cons, List.flatMap_nil, List.map_append, keysL]
  · rintro Γ' ⟨v, rfl⟩
    have l1 := lost_len H.ok h fun y hy => hy
    have l4 := isHolding_len H.ok
    simp only [run, exB, exS, ev, evs, evp, sets, enOf, vl, val_d, val_o, tr_b, tr_l, List.length_cons, List.length_nil, Nat.zero_add, Nat.reduceAdd, Nat.reduceSub, if_true, ite_true, List.map_cons, List.map_nil, List.map_id', Option.bind_some, Option.map_some, List.getElem?_cons_zero, List.getElem?_cons_succ, List.cons_append, List.nil_append, List.append_nil, List.replicate_succ, List.replicate_zero, List.set_cons_zero, List.set_cons_succ, wipeE, tg_nm, tg_2, tg_3, asI, asB, cpr_T, cprT_map, cprT_filter, it_enc, len_enc, isi_list, ix_k0, ix_k1, ix_r0, ix_r1, ix_r2, fold_list, Bool.not_true, Bool.not_false, reduceIte, decide_true, decide_false, Bool.and_true, Bool.and_false, Bool.true_and, Bool.false_and, Bool.or_true, Bool.or_false, Bool.true_or, Bool.false_or, cond_bind, cond_omap, and_b, or_b, chn_b, cond_true, cond_false, thn_nx, thn_rt, res_rt, res_nx, cond_res, cond_arb, isi_ky, isi_row, isi_str, len_ky, len_row, lv_true, lv_list, lv_bool, lv_int, lv_none, lv_str, lv_imm, eq_int, ne_int, eq_str, ne_str, lt_int, le_int, gt_int, ge_int, in_str, nin_str, in_int, nin_int, in_strs, it_zip_enc, it_enum_enc, sl_enc, slP_int, slP_none, val_mkO, mkO_imm, mkD_imm, mkD_list, mkD_row, list_enc, sz0, sz1, sz2, sz3, sz4, sz5, sz8, sz16, fold_row, fold_ky, lvs, List.all_cons, List.all_nil, all_enc, any_benc, mkL_bool, mkL_str, mkL_int, mkL_map, enc_int, enc_str, enc_bool, sset_ky (h.flatMap fun r => r.c.filter fun k => !isIn k (keysL h)) (by omega)]
    rfl
end T2.Q
end
section
set_option Elab.async false
set_option linter.all false
set_option autoImplicit false
set_option maxRecDepth 100000
namespace T2.Q
open PySem PySem.Spec L2 T2
open T2.Py (enc)
/-! ### drawn numbers -/
def Bd (e : Nat) (i : Int) : Prop := i.natAbs < 2 ^ e
theorem Bd.mono {e f : Nat} {i : Int} (h : Bd e i) (l : e ≤ f) : Bd f i := Nat.lt_of_lt_of_le h (Nat.pow_le_pow_right (by decide) l)
theorem Bd.add {e : Nat} {i j : Int} (h : Bd e i) (k : Bd e j) : Bd (e + 1) (i + j) := by
  unfold Bd at *
  rw [Nat.pow_succ]
  omega
theorem Bd.mul {e f : Nat} {i j : Int} (h : Bd e i) (k : Bd f j) : Bd (e + f) (i * j) := wide_lt h k
theorem Bd.small {i : Int} (h : -1000000 ≤ i) (h' : i ≤ 1000000) : Bd 20 i := by
  unfold Bd
  have : (2 : Nat) ^ 20 = 1048576 := by decide
  omega
theorem Bd.cm {e f : Nat} {i j : Int} (h : Bd e i) (k : Bd f j) (l : e + f ≤ 134217728) : CMulX i j := mulx_ok h k l
theorem cdiv {j : Int} (i : Int) (h : 0 < j) (h' : j ≤ 1000) : CDivW i j := by
  refine wide_div (b := 11) h ?_ (by decide) (by decide)
  have : (2 : Nat) ^ 11 = 2048 := by decide
  omega
theorem bin_add (a b : Bool) (i j : Int) : binD .add (a, .int i) (b, .int j) = some (.d true (.int (i + j))) := rfl
theorem bin_sub (a b : Bool) (i j : Int) : binD .sub (a, .int i) (b, .int j) = some (.d true (.int (i - j))) := rfl
theorem bin_mul (a b : Bool) {i j : Int} (h : CMulX i j) : binD .mul (a, .int i) (b, .int j) = some (.d true (.int (i * j))) := by
  show ((if CMulX i j then some (i * j) else none).map fun k => En.d true (.int k)) = _
  rw [if_pos h]; rfl
theorem bin_fdv (a b : Bool) {i j : Int} (h : CDivW i j) : binD .fdv (a, .int i) (b, .int j) = some (.d true (.int (i / j))) := by
  show ((if CDivW i j then some (i / j) else none).map fun k => En.d true (.int k)) = _
  rw [if_pos h]; rfl
theorem bin_mod (a b : Bool) {i j : Int} (h : 0 < j) : binD .mod (a, .int i) (b, .int j) = some (.d true (.int (i % j))) := by
  show ((if 0 < j then some (i % j) else none).map fun k => En.d true (.int k)) = _
  rw [if_pos h]; rfl
theorem bin_shr (a b : Bool) {i j : Int} (h : 0 ≤ j) : binD .shr (a, .int i) (b, .int j) = some (.d true (.int (i / 2 ^ j.toNat))) := by
  show ((if 0 ≤ j then some (i / 2 ^ j.toNat) else none).map fun k => En.d true (.int k)) = _
  rw [if_pos h]; rfl
theorem bin_pow18 (a b : Bool) : binD .pow (a, .int 10) (b, .int 18) = some (.d true (.int 1000000000000000000)) := by
  show ((if CPow 10 18 then some ((10 : Int) ^ (18 : Int).toNat) else none).map fun k => En.d true (.int k)) = _
  rw [if_pos ⟨by decide, by decide, by decide⟩]; rfl
def cell (ns : List Int) (k : Int) : Int := if k < ns.length then (ns[k.toNat]?).getD 0 else 0
theorem r_law_cell_at (b c : Bool) (ns : List Int) (k : Int) (h : 0 ≤ k) : f_law_cell_at [(b, enc ns), (c, .int k)] = some (true, .int (cell ns k)) := by
  simp only [f_law_cell_at, b_law_cell_at, c_law_cell_at, run, exB, exS, ev, evs, evp, sets, enOf, vl, val_d, val_o, tr_b, tr_l, List.length_cons, List.length_nil, Nat.zero_add, Nat.reduceAdd, Nat.reduceSub, if_true, ite_true, List.map_cons, List.map_nil, List.map_id', Option.bind_some, Option.map_some, List.getElem?_cons_zero, List.getElem?_cons_succ, List.cons_append, List.nil_append, List.append_nil, List.replicate_succ, List.replicate_zero, List.set_cons_zero, List.set_cons_succ, wipeE, tg_nm, tg_2, tg_3, asI, asB, cpr_T, cprT_map, cprT_filter, it_enc, len_enc, isi_list, ix_k0, ix_k1, ix_r0, ix_r1, ix_r2, fold_list, Bool.not_true, Bool.not_false, reduceIte, decide_true, decide_false, Bool.and_true, Bool.and_false, Bool.true_and, Bool.false_and, Bool.or_true, Bool.or_false, Bool.true_or, Bool.false_or, cond_bind, cond_omap, and_b, or_b, chn_b, cond_true, cond_false, thn_nx, thn_rt, res_rt, res_nx, cond_res, cond_arb, isi_ky, isi_row, isi_str, len_ky, len_row, lv_true, lv_list, lv_bool, lv_int, lv_none, lv_str, lv_imm, eq_int, ne_int, eq_str, ne_str, lt_int, le_int, gt_int, ge_int, in_str, nin_str, in_int, nin_int, in_strs, it_zip_enc, it_enum_enc, sl_enc, slP_int, slP_none, val_mkO, mkO_imm, mkD_imm, mkD_list, mkD_row, list_enc, sz0, sz1, sz2, sz3, sz4, sz5, sz8, sz16, fold_row, fold_ky, lvs, List.all_cons, List.all_nil, all_enc, any_benc, mkL_bool, mkL_str, mkL_int, mkL_map, enc_int, enc_str, enc_bool]
  unfold cell
  by_cases q : k < (ns.length : Int)
  · have e := ix_nat b ns k.toNat (List.getElem?_eq_getElem (show k.toNat < ns.length by omega))
    rw [Int.toNat_of_nonneg h] at e
    rw [if_pos q, e, List.getElem?_eq_getElem (show k.toNat < ns.length by omega)]
    have im : mkD b (PyData.int ns[k.toNat]) = .d true (.int ns[k.toNat]) := mkD_imm b (ns[k.toNat])
    simp only [run, exB, exS, ev, evs, evp, sets, enOf, vl, val_d, val_o, tr_b, tr_l, List.length_cons, List.length_nil, Nat.zero_add, Nat.reduceAdd, Nat.reduceSub, if_true, ite_true, List.map_cons, List.map_nil, List.map_id', Option.bind_some, Option.map_some, List.getElem?_cons_zero, List.getElem?_cons_succ, List.cons_append, List.nil_append, List.append_nil, List.replicate_succ, List.replicate_zero, List.set_cons_zero, List.set_cons_succ, wipeE, tg_nm, tg_2, tg_3, asI, asB, cpr_T, cprT_map, cprT_filter, it_enc, len_enc, isi_list, ix_k0, ix_k1, ix_r0, ix_r1, ix_r2, fold_list, Bool.not_true, Bool.not_false, reduceIte, decide_true, decide_false, Bool.and_true, Bool.and_false, Bool.true_and, Bool.false_and, Bool.or_true, Bool.or_false, Bool.true_or, Bool.false_or, cond_bind, cond_omap, and_b, or_b, chn_b, cond_true, cond_false, thn_nx, thn_rt, res_rt, res_nx, cond_res, cond_arb, isi_ky, isi_row, isi_str, len_ky, len_row, lv_true, lv_list, lv_bool, lv_int, lv_none, lv_str, lv_imm, eq_int, ne_int, eq_str, ne_str, lt_int, le_int, gt_int, ge_int, in_str, nin_str, in_int, nin_int, in_strs, it_zip_enc, it_enum_enc, sl_enc, slP_int, slP_none, val_mkO, mkO_imm, mkD_imm, mkD_list, mkD_row, list_enc, sz0, sz1, sz2, sz3, sz4, sz5, sz8, sz16, fold_row, fold_ky, lvs, List.all_cons, List.all_nil, all_enc, any_benc, mkL_bool, mkL_str, mkL_int, mkL_map, enc_int, enc_str, enc_bool, q, im, Option.getD_some]
  · rw [if_neg q]
    simp only [run, exB, exS, ev, evs, evp, sets, enOf, vl, val_d, val_o, tr_b, tr_l, List.length_cons, List.length_nil, Nat.zero_add, Nat.reduceAdd, Nat.reduceSub, if_true, ite_true, List.map_cons, List.map_nil, List.map_id', Option.bind_some, Option.map_some, List.getElem?_cons_zero, List.getElem?_cons_succ, List.cons_append, List.nil_append, List.append_nil, List.replicate_succ, List.replicate_zero, List.set_cons_zero, List.set_cons_succ, wipeE, tg_nm, tg_2, tg_3, asI, asB, cpr_T, cprT_map, cprT_filter, it_enc, len_enc, isi_list, ix_k0, ix_k1, ix_r0, ix_r1, ix_r2, fold_list, Bool.not_true, Bool.not_false, reduceIte, decide_true, decide_false, Bool.and_true, Bool.and_false, Bool.true_and, Bool.false_and, Bool.or_true, Bool.or_false, Bool.true_or, Bool.false_or, cond_bind, cond_omap, and_b, or_b, chn_b, cond_true, cond_false, thn_nx, thn_rt, res_rt, res_nx, cond_res, cond_arb, isi_ky, isi_row, isi_str, len_ky, len_row, lv_true, lv_list, lv_bool, lv_int, lv_none, lv_str, lv_imm, eq_int, ne_int, eq_str, ne_str, lt_int, le_int, gt_int, ge_int, in_str, nin_str, in_int, nin_int, in_strs, it_zip_enc, it_enum_enc, sl_enc, slP_int, slP_none, val_mkO, mkO_imm, mkD_imm, mkD_list, mkD_row, list_enc, sz0, sz1, sz2, sz3, sz4, sz5, sz8, sz16, fold_row, fold_ky, lvs, List.all_cons, List.all_nil, all_enc, any_benc, mkL_bool, mkL_str, mkL_int, mkL_map, enc_int, enc_str, enc_bool, q]
theorem cell_bd {ns : List Int} {e : Nat} (he : 20 ≤ e) (h : ∀ z ∈ ns, Builtin.Int.intBits z ≤ e) (k : Int) : Bd e (cell ns k) := by
  unfold cell
  split
  · cases q : ns[k.toNat]? with
    | none => exact Bd.mono (Bd.small (i := 0) (by omega) (by omega)) he
    | some z =>
      have hz := h z (List.mem_of_getElem? q)
      show z.natAbs < 2 ^ e
      unfold Builtin.Int.intBits at hz
      split at hz
      · rename_i z0
        have : z = 0 := by simpa using z0
        subst this
        exact Nat.pow_pos (by omega)
      · rename_i z0
        have : z ≠ 0 := by simpa using z0
        exact (Nat.log2_lt (by omega)).mp (by omega)
  · exact Bd.mono (Bd.small (by omega) (by omega)) he
theorem evs_lits (C : Cf) (Γ : List En) : ∀ ds : List PyData, evs C (ds.map .lit) Γ = some (ds.map fun d => (true, d))
  | [] => by simp only [List.map_nil, evs]
  | d :: ds => by simp only [List.map_cons, evs, ev, vl, val_d, Option.bind_some, evs_lits C Γ ds, Option.map_some]
theorem tup_lits (C : Cf) (Γ : List En) (ds : List PyData) (h : ds.length ≤ sizeLine) : ev C (.tup (ds.map .lit)) Γ = some (.d true (.tuple ds)) := by
  have e1 : lvs (ds.map fun d => (true, d)) = true := by
    unfold lvs
    rw [List.all_eq_true]
    intro a ha
    obtain ⟨d, _, rfl⟩ := List.mem_map.mp ha
    rfl
  simp only [ev, evs_lits, Option.bind_some, List.length_map, if_pos h, e1, List.map_map]
  have : ((fun x : Ar => x.2) ∘ fun d : PyData => (true, d)) = fun d => d := rfl
  rw [this, List.map_id']
def primesD : List PyData := [.int 1000003, .int 1000033, .int 1000037, .int 1000039, .int 1000081, .int 1000099, .int 1000117, .int 1000121, .int 1000133, .int 1000151, .int 1000159, .int 1000171, .int 1000183, .int 1000187, .int 1000193, .int 1000199]
def bD (ps : List PyData) (c1 c2 : Int) : List CS := [.set 3 (.tup (ps.map .lit)), .ret (.bin .mod (.bin .mod (.bin .add (.bin .mul (.var 0) (.lit (.int c1))) (.bin .mul (.var 1) (.lit (.int c2)))) (.ix (.var 3) (.bin .mod (.var 1) (.lit (.int 16))))) (.var 2))]
theorem bD_eq : b_law_draw = bD primesD 48271 69621 := rfl
theorem draw_gen (a b c : Bool) (x k m c1 c2 p : Int) (ps : List PyData) (hl : ps.length ≤ sizeLine) (m1 : CMulX x c1) (m2 : CMulX k c2) (ht : ixD (true, .tuple ps) (k % 16) = some (.d true (.int p))) (hp : 0 < p) (hm : 0 < m) :
    run c_law_draw 3 4 (bD ps c1 c2) [(a, .int x), (b, .int k), (c, .int m)] = some (true, .int ((x * c1 + k * c2) % p % m)) := by
  simp only [run, bD, exB, exS, tup_lits _ _ ps hl]
  simp only [c_law_draw, run, exB, exS, ev, evs, evp, sets, enOf, vl, val_d, val_o, tr_b, tr_l, List.length_cons, List.length_nil, Nat.zero_add, Nat.reduceAdd, Nat.reduceSub, if_true, ite_true, List.map_cons, List.map_nil, List.map_id', Option.bind_some, Option.map_some, List.getElem?_cons_zero, List.getElem?_cons_succ, List.cons_append, List.nil_append, List.append_nil, List.replicate_succ, List.replicate_zero, List.set_cons_zero, List.set_cons_succ, wipeE, tg_nm, tg_2, tg_3, asI, asB, cpr_T, cprT_map, cprT_filter, it_enc, len_enc, isi_list, ix_k0, ix_k1, ix_r0, ix_r1, ix_r2, fold_list, Bool.not_true, Bool.not_false, reduceIte, decide_true, decide_false, Bool.and_true, Bool.and_false, Bool.true_and, Bool.false_and, Bool.or_true, Bool.or_false, Bool.true_or, Bool.false_or, cond_bind, cond_omap, and_b, or_b, chn_b, cond_true, cond_false, thn_nx, thn_rt, res_rt, res_nx, cond_res, cond_arb, isi_ky, isi_row, isi_str, len_ky, len_row, lv_true, lv_list, lv_bool, lv_int, lv_none, lv_str, lv_imm, eq_int, ne_int, eq_str, ne_str, lt_int, le_int, gt_int, ge_int, in_str, nin_str, in_int, nin_int, in_strs, it_zip_enc, it_enum_enc, sl_enc, slP_int, slP_none, val_mkO, mkO_imm, mkD_imm, mkD_list, mkD_row, list_enc, sz0, sz1, sz2, sz3, sz4, sz5, sz8, sz16, fold_row, fold_ky, lvs, List.all_cons, List.all_nil, all_enc, any_benc, mkL_bool, mkL_str, mkL_int, mkL_map, enc_int, enc_str, enc_bool, bin_mul _ _ m1, bin_mul _ _ m2, bin_add, bin_mod _ _ (show (0 : Int) < 16 by omega), ht, bin_mod _ _ hp, bin_mod _ _ hm]
theorem primes_at (k : Int) (h0 : 0 ≤ k) (h1 : k ≤ 15) : ∃ p : Int, 0 < p ∧ ixD (true, .tuple primesD) (k % 16) = some (.d true (.int p)) := by
  have e : k % 16 = k := by omega
  rw [e]
  obtain h | h | h | h | h | h | h | h | h | h | h | h | h | h | h | h : k = 0 ∨ k = 1 ∨ k = 2 ∨ k = 3 ∨ k = 4 ∨ k = 5 ∨ k = 6 ∨ k = 7 ∨ k = 8 ∨ k = 9 ∨ k = 10 ∨ k = 11 ∨ k = 12 ∨ k = 13 ∨ k = 14 ∨ k = 15 := by omega
  · subst h; exact ⟨1000003, by omega, rfl⟩
  · subst h; exact ⟨1000033, by omega, rfl⟩
  · subst h; exact ⟨1000037, by omega, rfl⟩
  · subst h; exact ⟨1000039, by omega, rfl⟩
  · subst h; exact ⟨1000081, by omega, rfl⟩
  · subst h; exact ⟨1000099, by omega, rfl⟩
  · subst h; exact ⟨1000117, by omega, rfl⟩
  · subst h; exact ⟨1000121, by omega, rfl⟩
  · subst h; exact ⟨1000133, by omega, rfl⟩
  · subst h; exact ⟨1000151, by omega, rfl⟩
  · subst h; exact ⟨1000159, by omega, rfl⟩
  · subst h; exact ⟨1000171, by omega, rfl⟩
  · subst h; exact ⟨1000183, by omega, rfl⟩
  · subst h; exact ⟨1000187, by omega, rfl⟩
  · subst h; exact ⟨1000193, by omega, rfl⟩
  · subst h; exact ⟨1000199, by omega, rfl⟩
theorem r_law_draw (a b c : Bool) (x k m : Int) {e : Nat} (he : e + 20 ≤ 134217728) (hx : Bd e x) (h0 : 0 ≤ k) (h1 : k ≤ 15) (hm : 0 < m) : ∃ v, f_law_draw [(a, .int x), (b, .int k), (c, .int m)] = some (true, .int v) ∧ 0 ≤ v ∧ v < m := by
  have m1 : CMulX x 48271 := hx.cm (Bd.small (by omega) (by omega)) he
  have m2 : CMulX k 69621 := (Bd.small (by omega) (by omega)).cm (Bd.small (by omega) (by omega)) (by omega)
  obtain ⟨p, hp, ht⟩ := primes_at k h0 h1
  refine ⟨(x * 48271 + k * 69621) % p % m, ?_, Int.emod_nonneg _ (by omega), Int.emod_lt_of_pos _ hm⟩
  rw [f_law_draw, bD_eq]
  exact draw_gen a b c x k m _ _ p primesD (by decide) m1 m2 ht hp hm
def Val (e : Nat) (v : Int) : Prop := 0 ≤ v ∧ Bd e v
def bV (w a b c d e g : Int) : List CS := [.ifs (.cmp .ge (.var 0) (.bin .pow (.lit (.int 10)) (.lit (.int 18)))) [.ret (.bin .shr (.bin .sub (.var 0) (.bin .pow (.lit (.int 10)) (.lit (.int 18)))) (.bin .mul (.lit (.int 3)) (.var 1)))] [],
    .set 2 (.cal 0 [(.bin .mul (.bin .add (.var 0) (.bin .mul (.lit (.int a)) (.var 1))) (.bin .add (.bin .add (.var 0) (.bin .mul (.lit (.int b)) (.var 1))) (.lit (.int 5)))), (.bin .add (.bin .mod (.var 1) (.lit (.int 9))) (.lit (.int 1))), (.lit (.int c))]),
    .ret (.bin .add (.bin .mul (.var 2) (.lit (.int d))) (.cal 0 [(.bin .add (.bin .mul (.bin .add (.var 0) (.bin .mul (.lit (.int b)) (.var 1))) (.bin .add (.var 0) (.lit (.int 7)))) (.bin .mul (.lit (.int a)) (.var 1))), (.bin .add (.bin .mod (.var 1) (.lit (.int 7))) (.lit (.int 2))), (.lit (.int d))]))]
theorem bV_eq : b_law_value = bV 0 977 31 999983 1000003 0 0 := rfl
theorem bin_powE (W : Int) (hW : (10 : Int) ^ (18 : Int).toNat = W) (a b : Bool) : binD .pow (a, .int 10) (b, .int 18) = some (.d true (.int W)) := by
  show ((if CPow 10 18 then some ((10 : Int) ^ (18 : Int).toNat) else none).map fun k => En.d true (.int k)) = _
  rw [if_pos ⟨by decide, by decide, by decide⟩, hW]; rfl
theorem value_big (a b : Bool) (x t W g1 g2 g3 g4 g5 g6 g7 : Int) (hW : (10 : Int) ^ (18 : Int).toNat = W) (q : W ≤ x) (h0 : 0 ≤ t) (m1 : CMulX 3 t) : run c_law_value 2 3 (bV g1 g2 g3 g4 g5 g6 g7) [(a, .int x), (b, .int t)] = some (true, .int ((x - W) / 2 ^ (3 * t).toNat)) := by
  simp only [bV, c_law_value, run, exB, exS, ev, evs, evp, sets, enOf, vl, val_d, val_o, tr_b, tr_l, List.length_cons, List.length_nil, Nat.zero_add, Nat.reduceAdd, Nat.reduceSub, if_true, ite_true, List.map_cons, List.map_nil, List.map_id', Option.bind_some, Option.map_some, List.getElem?_cons_zero, List.getElem?_cons_succ, List.cons_append, List.nil_append, List.append_nil, List.replicate_succ, List.replicate_zero, List.set_cons_zero, List.set_cons_succ, wipeE, tg_nm, tg_2, tg_3, asI, asB, cpr_T, cprT_map, cprT_filter, it_enc, len_enc, isi_list, ix_k0, ix_k1, ix_r0, ix_r1, ix_r2, fold_list, Bool.not_true, Bool.not_false, reduceIte, decide_true, decide_false, Bool.and_true, Bool.and_false, Bool.true_and, Bool.false_and, Bool.or_true, Bool.or_false, Bool.true_or, Bool.false_or, cond_bind, cond_omap, and_b, or_b, chn_b, cond_true, cond_false, thn_nx, thn_rt, res_rt, res_nx, cond_res, cond_arb, isi_ky, isi_row, isi_str, len_ky, len_row, lv_true, lv_list, lv_bool, lv_int, lv_none, lv_str, lv_imm, eq_int, ne_int, eq_str, ne_str, lt_int, le_int, gt_int, ge_int, in_str, nin_str, in_int, nin_int, in_strs, it_zip_enc, it_enum_enc, sl_enc, slP_int, slP_none, val_mkO, mkO_imm, mkD_imm, mkD_list, mkD_row, list_enc, sz0, sz1, sz2, sz3, sz4, sz5, sz8, sz16, fold_row, fold_ky, lvs, List.all_cons, List.all_nil, all_enc, any_benc, mkL_bool, mkL_str, mkL_int, mkL_map, enc_int, enc_str, enc_bool, bin_powE W hW, q, bin_sub, bin_mul _ _ m1, bin_shr _ _ (show 0 ≤ 3 * t by omega)]
theorem value_small (f : Fu) (nm : Str) (l r : Bool) (x t W a b c d u w g1 g6 g7 : Int) (hW : (10 : Int) ^ (18 : Int).toNat = W) (q : ¬ W ≤ x) (m1 : CMulX a t) (m2 : CMulX b t) (m3 : CMulX (x + a * t) (x + b * t + 5)) (m4 : CMulX (x + b * t) (x + 7)) (m5 : CMulX u d)
    (hu : f [(true, .int ((x + a * t) * (x + b * t + 5))), (true, .int (t % 9 + 1)), (true, .int c)] = some (true, .int u)) (hw : f [(true, .int ((x + b * t) * (x + 7) + a * t)), (true, .int (t % 7 + 2)), (true, .int d)] = some (true, .int w)) :
    run ⟨[], [(nm, f)]⟩ 2 3 (bV g1 a b c d g6 g7) [(l, .int x), (r, .int t)] = some (true, .int (u * d + w)) := by
  simp only [bV, run, exB, exS, ev, evs, evp, sets, enOf, vl, val_d, val_o, tr_b, tr_l, List.length_cons, List.length_nil, Nat.zero_add, Nat.reduceAdd, Nat.reduceSub, if_true, ite_true, List.map_cons, List.map_nil, List.map_id', Option.bind_some, Option.map_some, List.getElem?_cons_zero, List.getElem?_cons_succ, List.cons_append, List.nil_append, List.append_nil, List.replicate_succ, List.replicate_zero, List.set_cons_zero, List.set_cons_succ, wipeE, tg_nm, tg_2, tg_3, asI, asB, cpr_T, cprT_map, cprT_filter, it_enc, len_enc, isi_list, ix_k0, ix_k1, ix_r0, ix_r1, ix_r2, fold_list, Bool.not_true, Bool.not_false, reduceIte, decide_true, decide_false, Bool.and_true, Bool.and_false, Bool.true_and, Bool.false_and, Bool.or_true, Bool.or_false, Bool.true_or, Bool.false_or, cond_bind, cond_omap, and_b, or_b, chn_b, cond_true, cond_false, thn_nx, thn_rt, res_rt, res_nx, cond_res, cond_arb, isi_ky, isi_row, isi_str, len_ky, len_row, lv_true, lv_list, lv_bool, lv_int, lv_none, lv_str, lv_imm, eq_int, ne_int, eq_str, ne_str, lt_int, le_int, gt_int, ge_int, in_str, nin_str, in_int, nin_int, in_strs, it_zip_enc, it_enum_enc, sl_enc, slP_int, slP_none, val_mkO, mkO_imm, mkD_imm, mkD_list, mkD_row, list_enc, sz0, sz1, sz2, sz3, sz4, sz5, sz8, sz16, fold_row, fold_ky, lvs, List.all_cons, List.all_nil, all_enc, any_benc, mkL_bool, mkL_str, mkL_int, mkL_map, enc_int, enc_str, enc_bool, bin_powE W hW, q, bin_sub, bin_add, bin_mul _ _ m1, bin_mul _ _ m2, bin_mul _ _ m3, bin_mul _ _ m4, bin_mod _ _ (show (0 : Int) < 9 by omega), bin_mod _ _ (show (0 : Int) < 7 by omega), hu, hw, bin_mul _ _ m5]
theorem r_law_value (a b : Bool) (x t : Int) {e : Nat} (h20 : 60 ≤ e) (he : 2 * e + 100 ≤ 134217728) (hx : Bd e x) (h0 : 0 ≤ t) (h1 : t ≤ 100) : ∃ v, f_law_value [(a, .int x), (b, .int t)] = some (true, .int v) ∧ Val e v := by
  have s : ∀ i : Int, -1000000 ≤ i → i ≤ 1000000 → Bd e i := fun i l u => (Bd.small l u).mono (by omega)
  have m0 : ∀ i j : Int, -1000000 ≤ i → i ≤ 1000000 → -1000000 ≤ j → j ≤ 1000000 → CMulX i j := fun i j a b c d => (Bd.small a b).cm (Bd.small c d) (by omega)
  by_cases q : (1000000000000000000 : Int) ≤ x
  · refine ⟨(x - 1000000000000000000) / 2 ^ (3 * t).toNat, ?_, ?_, ?_⟩
    · rw [f_law_value, bV_eq]
      exact value_big a b x t 1000000000000000000 _ _ _ _ _ _ _ (by decide) q h0 (m0 3 t (by omega) (by omega) (by omega) (by omega))
    · exact Int.ediv_nonneg (by omega) (Int.le_of_lt (Int.pow_pos (by omega)))
    · have h2 : (x - 1000000000000000000) / 2 ^ (3 * t).toNat ≤ x - 1000000000000000000 := Int.ediv_le_self _ (by omega)
      have h3 : 0 ≤ (x - 1000000000000000000) / 2 ^ (3 * t).toNat := Int.ediv_nonneg (by omega) (Int.le_of_lt (Int.pow_pos (by omega)))
      unfold Bd at *
      generalize (x - 1000000000000000000) / 2 ^ (3 * t).toNat = y at h2 h3 ⊢
      generalize 2 ^ e = E at hx ⊢
      omega
  · have m1 := m0 977 t (by omega) (by omega) (by omega) (by omega)
    have m2 := m0 31 t (by omega) (by omega) (by omega) (by omega)
    have b1 : Bd (e + 1) (x + 977 * t) := hx.add (s _ (by omega) (by omega))
    have b2 : Bd (e + 1) (x + 31 * t) := hx.add (s _ (by omega) (by omega))
    have b3 : Bd (e + 1 + 1) (x + 31 * t + 5) := b2.add ((s 5 (by omega) (by omega)).mono (by omega))
    have b4 : Bd (e + 1) (x + 7) := hx.add (s 7 (by omega) (by omega))
    have m3 : CMulX (x + 977 * t) (x + 31 * t + 5) := b1.cm b3 (by omega)
    have m4 : CMulX (x + 31 * t) (x + 7) := b2.cm b4 (by omega)
    obtain ⟨u, hu, u0, u1⟩ := r_law_draw true true true ((x + 977 * t) * (x + 31 * t + 5)) (t % 9 + 1) 999983 (by omega) (b1.mul b3) (by omega) (by omega) (by omega)
    obtain ⟨w, hw, w0, w1⟩ := r_law_draw true true true ((x + 31 * t) * (x + 7) + 977 * t) (t % 7 + 2) 1000003 (by omega) ((b2.mul b4).add ((s (977 * t) (by omega) (by omega)).mono (by omega))) (by omega) (by omega) (by omega)
    have m5 : CMulX u 1000003 := (show Bd 20 u from Bd.small (by omega) (by omega)).cm (show Bd 21 1000003 by unfold Bd; decide) (by omega)
    refine ⟨u * 1000003 + w, ?_, ?_, ?_⟩
    · rw [f_law_value, bV_eq]
      exact value_small f_law_draw _ a b x t 1000000000000000000 977 31 999983 1000003 u w _ _ _ (by decide) q m1 m2 m3 m4 m5 hu hw
    · omega
    · refine Bd.mono (e := 60) ?_ h20
      unfold Bd
      have : (2 : Nat) ^ 60 = 1152921504606846976 := by decide
      omega
end T2.Q
end
section
set_option Elab.async false
set_option linter.all false
set_option autoImplicit false
set_option maxRecDepth 100000
namespace T2.Q
open PySem PySem.Spec L2 T2
open T2.Py (enc)
/-! ### drawn keys and rows -/
theorem ix_tup (l : Bool) (ds : List PyData) (i : Int) (h0 : 0 ≤ i) (h1 : i < ds.length) : ∃ d, d ∈ ds ∧ ixD (l, .tuple ds) i = some (mkD l d) := by
  have hl : i.toNat < ds.length := by omega
  refine ⟨ds[i.toNat], List.getElem_mem hl, ?_⟩
  show (atI ds i).map (mkD l) = _
  unfold atI ixN
  rw [if_pos h0, if_pos h1]
  simp [hl]
theorem mkD_str (l : Bool) (x : Str) : mkD l (.str x) = .d true (.str x) := by cases l <;> rfl
theorem mkD_int (l : Bool) (x : Int) : mkD l (.int x) = .d true (.int x) := by cases l <;> rfl
theorem ix_let (i : Int) (h0 : 0 ≤ i) (h1 : i < 26) : ∃ c, c ∈ LET.cps.toList ∧ ∀ l, ixD (l, .str LET) i = some (.d true (.str ⟨#[c]⟩)) := by
  have hl : LET.cps.toList.length = 26 := by decide +kernel
  have hi : i.toNat < LET.cps.toList.length := by omega
  refine ⟨LET.cps.toList[i.toNat], List.getElem_mem hi, fun l => ?_⟩
  show (if LET.length ≤ sizeLine then (atI LET.cps.toList i).map fun c => En.d true (.str ⟨#[c]⟩) else none) = _
  rw [if_pos (by decide +kernel)]
  unfold atI ixN
  rw [if_pos h0, if_pos (by omega)]
  simp [hi]
theorem let_office : (LET.cps.toList.all fun c => isOffice ⟨#[c]⟩) = true := by decide +kernel
def offs4 : List Str := [Str.ofString "a", Str.ofString "ab", Str.ofString "z", Str.ofString "officess"]
theorem offs_ok : (offs4.all isOffice) = true := by decide +kernel
theorem fit_word {z : Str} {l m : Int} (h : isWord z l m = true) (hm : m ≤ 100) : z.length ≤ sizeLine := by
  simp only [isWord, Bool.and_eq_true, decide_eq_true_eq] at h
  have : 100 ≤ sizeLine := by decide
  omega
theorem fit_key {k : Ky} (h : isKey k = true) : fitK k := by
  simp only [isKey, Bool.and_eq_true] at h
  exact fit_word h.1 (by omega)
theorem fit_row {r : Row} (h : isRow r = true) : fitR r := by
  simp only [isRow, Bool.and_eq_true, areKeys, List.all_eq_true] at h
  exact ⟨fit_key h.1, fun t ht => fit_word (h.2.2.1 t ht) (by omega), fun k hk => fit_key (h.2.2.2.1.1 k hk)⟩
theorem hold_of {h : List Row} (H : isHolding h = true) : Hold h := ⟨fun r hr => fit_row (isHolding_row H hr), H⟩
theorem r_law_key (b : Bool) (n : Int) (h : 0 ≤ n) : ∃ k, f_law_key [(b, .int n)] = some (true, enc k) ∧ isKey k = true := by
  have dv : ∀ j : Int, 0 < j → j ≤ 1000 → 0 ≤ n / j := fun j h1 _ => Int.ediv_nonneg h (by omega)
  obtain ⟨o, ho, eo⟩ := ix_tup true [.str (Str.ofString "a"), .str (Str.ofString "ab"), .str (Str.ofString "z"), .str (Str.ofString "officess")] (n % 4) (by omega) (by show n % 4 < 4; omega)
  obtain ⟨m, hm, em⟩ := ix_tup true [.int 0, .int 1, .int 2, .int 10, .int 1000000] (n / 4 % 5) (by omega) (by show n / 4 % 5 < 5; omega)
  obtain ⟨c, hc, ec⟩ := ix_let (n / 60 % 26) (by omega) (by omega)
  obtain ⟨o', rfl, oo⟩ : ∃ o' : Str, o = .str o' ∧ isOffice o' = true := by
    have := List.all_eq_true.mp offs_ok
    simp only [List.mem_cons, List.not_mem_nil, or_false] at ho
    rcases ho with rfl | rfl | rfl | rfl
    · exact ⟨_, rfl, this _ (by simp [offs4])⟩
    · exact ⟨_, rfl, this _ (by simp [offs4])⟩
    · exact ⟨_, rfl, this _ (by simp [offs4])⟩
    · exact ⟨_, rfl, this _ (by simp [offs4])⟩
  obtain ⟨m', rfl, mm⟩ : ∃ m' : Int, m = .int m' ∧ (0 ≤ m' ∧ m' ≤ 1000000) := by
    simp only [List.mem_cons, List.not_mem_nil, or_false] at hm
    rcases hm with rfl | rfl | rfl | rfl | rfl
    · exact ⟨_, rfl, by omega, by omega⟩
    · exact ⟨_, rfl, by omega, by omega⟩
    · exact ⟨_, rfl, by omega, by omega⟩
    · exact ⟨_, rfl, by omega, by omega⟩
    · exact ⟨_, rfl, by omega, by omega⟩
  rw [mkD_str] at eo
  rw [mkD_int] at em
  have lo : isOffice ⟨#[c]⟩ = true := List.all_eq_true.mp let_office c hc
  have d4 : (decide (0 ≤ m') && decide (m' ≤ 1000000)) = true := by simp [mm.1, mm.2]
  by_cases q : n / 20 % 3 = 0
  · refine ⟨(⟨#[c]⟩, m'), ?_, by rw [isKey]; simp only [lo, d4, Bool.and_true]⟩
    simp only [f_law_key, b_law_key, c_law_key, run, exB, exS, ev, evs, evp, sets, enOf, vl, val_d, val_o, tr_b, tr_l, List.length_cons, List.length_nil, Nat.zero_add, Nat.reduceAdd, Nat.reduceSub, if_true, ite_true, List.map_cons, List.map_nil, List.map_id', Option.bind_some, Option.map_some, List.getElem?_cons_zero, List.getElem?_cons_succ, List.cons_append, List.nil_append, List.append_nil, List.replicate_succ, List.replicate_zero, List.set_cons_zero, List.set_cons_succ, wipeE, tg_nm, tg_2, tg_3, asI, asB, cpr_T, cprT_map, cprT_filter, it_enc, len_enc, isi_list, ix_k0, ix_k1, ix_r0, ix_r1, ix_r2, fold_list, Bool.not_true, Bool.not_false, reduceIte, decide_true, decide_false, Bool.and_true, Bool.and_false, Bool.true_and, Bool.false_and, Bool.or_true, Bool.or_false, Bool.true_or, Bool.false_or, cond_bind, cond_omap, and_b, or_b, chn_b, cond_true, cond_false, thn_nx, thn_rt, res_rt, res_nx, cond_res, cond_arb, isi_ky, isi_row, isi_str, len_ky, len_row, lv_true, lv_list, lv_bool, lv_int, lv_none, lv_str, lv_imm, eq_int, ne_int, eq_str, ne_str, lt_int, le_int, gt_int, ge_int, in_str, nin_str, in_int, nin_int, in_strs, it_zip_enc, it_enum_enc, sl_enc, slP_int, slP_none, val_mkO, mkO_imm, mkD_imm, mkD_list, mkD_row, list_enc, sz0, sz1, sz2, sz3, sz4, sz5, sz8, sz16, fold_row, fold_ky, lvs, List.all_cons, List.all_nil, all_enc, any_benc, mkL_bool, mkL_str, mkL_int, mkL_map, enc_int, enc_str, enc_bool, bin_mod _ _ (show (0 : Int) < 4 by omega), eo, bin_fdv _ _ (cdiv n (show (0 : Int) < 20 by omega) (by omega)), bin_mod _ _ (show (0 : Int) < 3 by omega), q, bin_fdv _ _ (cdiv n (show (0 : Int) < 60 by omega) (by omega)), bin_mod _ _ (show (0 : Int) < 26 by omega), ec, bin_fdv _ _ (cdiv n (show (0 : Int) < 4 by omega) (by omega)), bin_mod _ _ (show (0 : Int) < 5 by omega), em]
  · refine ⟨(o', m'), ?_, by rw [isKey]; simp only [oo, d4, Bool.and_true]⟩
    simp only [f_law_key, b_law_key, c_law_key, run, exB, exS, ev, evs, evp, sets, enOf, vl, val_d, val_o, tr_b, tr_l, List.length_cons, List.length_nil, Nat.zero_add, Nat.reduceAdd, Nat.reduceSub, if_true, ite_true, List.map_cons, List.map_nil, List.map_id', Option.bind_some, Option.map_some, List.getElem?_cons_zero, List.getElem?_cons_succ, List.cons_append, List.nil_append, List.append_nil, List.replicate_succ, List.replicate_zero, List.set_cons_zero, List.set_cons_succ, wipeE, tg_nm, tg_2, tg_3, asI, asB, cpr_T, cprT_map, cprT_filter, it_enc, len_enc, isi_list, ix_k0, ix_k1, ix_r0, ix_r1, ix_r2, fold_list, Bool.not_true, Bool.not_false, reduceIte, decide_true, decide_false, Bool.and_true, Bool.and_false, Bool.true_and, Bool.false_and, Bool.or_true, Bool.or_false, Bool.true_or, Bool.false_or, cond_bind, cond_omap, and_b, or_b, chn_b, cond_true, cond_false, thn_nx, thn_rt, res_rt, res_nx, cond_res, cond_arb, isi_ky, isi_row, isi_str, len_ky, len_row, lv_true, lv_list, lv_bool, lv_int, lv_none, lv_str, lv_imm, eq_int, ne_int, eq_str, ne_str, lt_int, le_int, gt_int, ge_int, in_str, nin_str, in_int, nin_int, in_strs, it_zip_enc, it_enum_enc, sl_enc, slP_int, slP_none, val_mkO, mkO_imm, mkD_imm, mkD_list, mkD_row, list_enc, sz0, sz1, sz2, sz3, sz4, sz5, sz8, sz16, fold_row, fold_ky, lvs, List.all_cons, List.all_nil, all_enc, any_benc, mkL_bool, mkL_str, mkL_int, mkL_map, enc_int, enc_str, enc_bool, bin_mod _ _ (show (0 : Int) < 4 by omega), eo, bin_fdv _ _ (cdiv n (show (0 : Int) < 20 by omega) (by omega)), bin_mod _ _ (show (0 : Int) < 3 by omega), q, bin_fdv _ _ (cdiv n (show (0 : Int) < 60 by omega) (by omega)), bin_mod _ _ (show (0 : Int) < 26 by omega), ec, bin_fdv _ _ (cdiv n (show (0 : Int) < 4 by omega) (by omega)), bin_mod _ _ (show (0 : Int) < 5 by omega), em]
end T2.Q
end
section
set_option Elab.async false
set_option linter.all false
set_option autoImplicit false
set_option maxRecDepth 100000
namespace T2.Q
open PySem PySem.Spec L2 T2
open T2.Py (enc)
theorem rng_mem {n : Nat} {x : Int} (h : x ∈ rngL 0 1 n) : 0 ≤ x ∧ x < n := by
  obtain ⟨i, hi⟩ := List.mem_iff_getElem?.mp h
  obtain ⟨h1, rfl⟩ := rngL_get hi
  omega
def texts8 : List Str := [Str.ofString "", Str.ofString "a", Str.ofString "b", Str.ofString "ab", Str.ofString "twelveletter", Str.ofString "c", Str.ofString "", Str.ofString "a"]
theorem texts_ok : (texts8.all fun t => isWord t 0 12) = true := by decide +kernel
theorem texts_cut : (LET.cps.toList.all fun c => texts8.all fun t => isWord (⟨#[c]⟩ ++ cutS t none (some 3)) 0 12) = true := by decide +kernel
theorem texts_len : (texts8.all fun t => decide (t.length ≤ 20) && decide ((cutS t none (some 3)).length ≤ 20)) = true := by decide +kernel
theorem texts_ok' {t : Str} (h : t ∈ texts8) : isWord t 0 12 = true := List.all_eq_true.mp texts_ok t h
theorem texts_cut' {c : Nat} {t : Str} (hc : c ∈ LET.cps.toList) (h : t ∈ texts8) : isWord (⟨#[c]⟩ ++ cutS t none (some 3)) 0 12 = true := by
  have h1 := List.all_eq_true.mp texts_cut c hc
  exact List.all_eq_true.mp h1 t h
theorem texts_len' {t : Str} (h : t ∈ texts8) : t.length ≤ 20 ∧ (cutS t none (some 3)).length ≤ 20 := by
  have tl := List.all_eq_true.mp texts_len t h
  simpa only [Bool.and_eq_true, decide_eq_true_eq] using tl
theorem one_len (c : Nat) : (⟨#[c]⟩ : Str).length = 1 := rfl
theorem cat_str (a b : Bool) (x y : Str) (h : x.length + y.length ≤ sizeLine) : binD .add (a, .str x) (b, .str y) = some (.d true (.str (x ++ y))) := by
  show (if x.length + y.length ≤ sizeLine then some (En.d true (.str (x ++ y))) else none) = _
  rw [if_pos h]
theorem sl_str (b : Bool) (z : Str) (lo hi : Option Int) (h : z.length ≤ sizeLine) : slD (b, .str z) lo hi = some (.d true (.str (cutS z lo hi))) := by
  show (if z.length ≤ sizeLine then some (En.d true (.str (cutS z lo hi))) else none) = _
  rw [if_pos h]
/-- what a row's def leans on -/
structure Drw (e : Nat) (ns : List Int) (fv fc fk : Fu) : Prop where
  c : ∃ g : Int → Int, (∀ k, Bd e (g k)) ∧ ∀ l m k, 0 ≤ k → fc [(l, enc ns), (m, .int k)] = some (true, .int (g k))
  v : ∀ l m x t, Bd e x → 0 ≤ t → t ≤ 100 → ∃ v, fv [(l, .int x), (m, .int t)] = some (true, .int v) ∧ Val e v
  k : ∀ l n, 0 ≤ n → ∃ k : Ky, fk [(l, .int n)] = some (true, enc k) ∧ isKey k = true
theorem drw {ns : List Int} {e : Nat} (h20 : 60 ≤ e) (he : 2 * e + 100 ≤ 134217728) (h : ∀ z ∈ ns, Builtin.Int.intBits z ≤ e) : Drw e ns f_law_value f_law_cell_at f_law_key :=
  ⟨⟨cell ns, cell_bd (by omega) h, fun l m k hk => r_law_cell_at l m ns k hk⟩, fun l m x t hx h0 h1 => r_law_value l m x t h20 he hx h0 h1, fun l n hn => r_law_key l n hn⟩
theorem text_at (n j : Int) (k : Int) (hj : ∀ l, ixD (l, .tuple [.int 3, .int 8, .int 5]) k = some (.d true (.int j))) (h1 : 0 < j) (h2 : j ≤ 8) : ∃ t, t ∈ texts8 ∧ ixD (true, .tuple [.str (Str.ofString ""), .str (Str.ofString "a"), .str (Str.ofString "b"), .str (Str.ofString "ab"), .str (Str.ofString "twelveletter"), .str (Str.ofString "c"), .str (Str.ofString ""), .str (Str.ofString "a")]) (n % j) = some (.d true (.str t)) := by
  have m1 := Int.emod_nonneg n (show j ≠ 0 by omega)
  have m2 := Int.emod_lt_of_pos n h1
  obtain ⟨d, hd, ed⟩ := ix_tup true (texts8.map .str) (n % j) m1 (by show n % j < 8; omega)
  obtain ⟨t, ht, rfl⟩ := List.mem_map.mp hd
  rw [mkD_str] at ed
  exact ⟨t, ht, ed⟩
theorem kind_at (k : Int) (h0 : 0 ≤ k) (h1 : k ≤ 2) : ∃ j : Int, 0 < j ∧ j ≤ 8 ∧ ∀ l, ixD (l, .tuple [.int 3, .int 8, .int 5]) k = some (.d true (.int j)) := by
  obtain h | h | h : k = 0 ∨ k = 1 ∨ k = 2 := by omega
  · subst h; exact ⟨3, by omega, by omega, fun l => by cases l <;> rfl⟩
  · subst h; exact ⟨8, by omega, by omega, fun l => by cases l <;> rfl⟩
  · subst h; exact ⟨5, by omega, by omega, fun l => by cases l <;> rfl⟩
theorem mul_s (a b : Bool) (i j : Int) (h1 : 0 ≤ i) (h2 : i ≤ 1000) (h3 : 0 ≤ j) (h4 : j ≤ 1000) : binD .mul (a, .int i) (b, .int j) = some (.d true (.int (i * j))) := bin_mul a b ((Bd.small (by omega) (by omega)).cm (Bd.small (by omega) (by omega)) (by omega))
/-- one field -/
theorem row_field (e : Nat) (ns : List Int) (fv fc fk : Fu) (n1 n2 n3 : Str) (D : Drw e ns fv fc fk) (l0 l1 l2 l3 l4 : Bool) (by_ many wide kind : Int) (b0 : 0 ≤ by_) (m0 : 0 ≤ many) (m1 : many ≤ 100) (k0 : 0 ≤ kind) (k1 : kind ≤ 2) (x : Int) (x0 : 0 ≤ x) (x1 : x < 4) (fs : List Str) (hl : fs.length ≤ 10) (v7 v8 v9 : En) :
    ∃ t, isWord t 0 12 = true ∧ ∃ w8, exB ⟨[], [(n1, fv), (n2, fc), (n3, fk)]⟩ [.set 8 (.bin .add (.bin .fdv (.cal 0 [(.cal 1 [(.var 0), (.bin .add (.var 1) (.bin .mod (.var 7) (.lit (.int 5))))]), (.bin .add (.bin .add (.lit (.int 3)) (.var 7)) (.bin .mod (.var 2) (.lit (.int 7))))]) (.lit (.int 3))) (.bin .mul (.lit (.int 7)) (.var 2))),
    .set 9 (.ix (.tup [(.lit (.str (Str.ofString ""))), (.lit (.str (Str.ofString "a"))), (.lit (.str (Str.ofString "b"))), (.lit (.str (Str.ofString "ab"))), (.lit (.str (Str.ofString "twelveletter"))), (.lit (.str (Str.ofString "c"))), (.lit (.str (Str.ofString ""))), (.lit (.str (Str.ofString "a")))]) (.bin .mod (.var 8) (.ix (.tup [(.lit (.int 3)), (.lit (.int 8)), (.lit (.int 5))]) (.var 4)))),
    .ifs (.cmp .eq (.bin .mod (.bin .fdv (.var 8) (.lit (.int 8))) (.lit (.int 5))) (.lit (.int 0))) [.set 9 (.bin .add (.ix (.lit (.str (Str.ofString "abcdefghijklmnopqrstuvwxyz"))) (.bin .mod (.bin .fdv (.var 8) (.lit (.int 40))) (.lit (.int 26)))) (.sl (.var 9) (.lit .none) (.lit (.int 3))))] [],
    .app 5 (.var 9)] [.d l0 (enc ns), .d l1 (.int by_), .d l2 (.int many), .d l3 (.int wide), .d l4 (.int kind), .o true (fs.map enc), .o true [], .d true (.int x), v8, v9, .no, .no] = some (.nx [.d l0 (enc ns), .d l1 (.int by_), .d l2 (.int many), .d l3 (.int wide), .d l4 (.int kind), .o true ((fs ++ [t]).map enc), .o true [], .d true (.int x), w8, .d true (.str t), .no, .no]) := by
  obtain ⟨g, gb, gc⟩ := D.c
  obtain ⟨v, hv, v0, vb⟩ := D.v true true (g (by_ + x % 5)) (3 + x + many % 7) (gb _) (by omega) (by omega)
  obtain ⟨j, j0, j1, jk⟩ := kind_at kind k0 k1
  have q0 : 0 ≤ v / 3 + 7 * many := by
    have := Int.ediv_nonneg v0 (show (0 : Int) ≤ 3 by omega)
    omega
  obtain ⟨t, ht, et⟩ := text_at (v / 3 + 7 * many) j kind jk j0 j1
  obtain ⟨c, hc, ec⟩ := ix_let ((v / 3 + 7 * many) / 40 % 26) (by omega) (by omega)
  have tl := texts_len' ht
  have wc := texts_cut' hc ht
  have wt := texts_ok' ht
  have big : 100 ≤ sizeLine := by decide
  have lc := one_len c
  generalize hz : (⟨#[c]⟩ : Str) = z at *
  generalize hy : cutS t none (some 3) = y at *
  have zl : (fs.map enc).length < sizeLine := by rw [List.length_map]; omega
  by_cases q : (v / 3 + 7 * many) / 8 % 5 = 0
  · refine ⟨z ++ y, wc, .d true (.int (v / 3 + 7 * many)), ?_⟩
    simp only [run, exB, exS, ev, evs, evp, sets, enOf, vl, val_d, val_o, tr_b, tr_l, List.length_cons, List.length_nil, Nat.zero_add, Nat.reduceAdd, Nat.reduceSub, if_true, ite_true, List.map_cons, List.map_nil, List.map_id', Option.bind_some, Option.map_some, List.getElem?_cons_zero, List.getElem?_cons_succ, List.cons_append, List.nil_append, List.append_nil, List.replicate_succ, List.replicate_zero, List.set_cons_zero, List.set_cons_succ, wipeE, tg_nm, tg_2, tg_3, asI, asB, cpr_T, cprT_map, cprT_filter, it_enc, len_enc, isi_list, ix_k0, ix_k1, ix_r0, ix_r1, ix_r2, fold_list, Bool.not_true, Bool.not_false, reduceIte, decide_true, decide_false, Bool.and_true, Bool.and_false, Bool.true_and, Bool.false_and, Bool.or_true, Bool.or_false, Bool.true_or, Bool.false_or, cond_bind, cond_omap, and_b, or_b, chn_b, cond_true, cond_false, thn_nx, thn_rt, res_rt, res_nx, cond_res, cond_arb, isi_ky, isi_row, isi_str, len_ky, len_row, lv_true, lv_list, lv_bool, lv_int, lv_none, lv_str, lv_imm, eq_int, ne_int, eq_str, ne_str, lt_int, le_int, gt_int, ge_int, in_str, nin_str, in_int, nin_int, in_strs, it_zip_enc, it_enum_enc, sl_enc, slP_int, slP_none, val_mkO, mkO_imm, mkD_imm, mkD_list, mkD_row, list_enc, sz0, sz1, sz2, sz3, sz4, sz5, sz8, sz16, fold_row, fold_ky, lvs, List.all_cons, List.all_nil, all_enc, any_benc, mkL_bool, mkL_str, mkL_int, mkL_map, enc_int, enc_str, enc_bool, bin_mod _ _ (show (0 : Int) < 5 by omega), bin_add, gc _ _ _ (show 0 ≤ by_ + x % 5 by omega), bin_mod _ _ (show (0 : Int) < 7 by omega), hv, bin_fdv _ _ (cdiv v (show (0 : Int) < 3 by omega) (by omega)), mul_s _ _ 7 many (by omega) (by omega) m0 (by omega), jk, bin_mod _ _ j0, et, bin_fdv _ _ (cdiv _ (show (0 : Int) < 8 by omega) (by omega)), q, bin_fdv _ _ (cdiv _ (show (0 : Int) < 40 by omega) (by omega)), bin_mod _ _ (show (0 : Int) < 26 by omega), ec, sl_str _ t _ _ (show t.length ≤ sizeLine by omega), hy, cat_str _ _ _ _ (show z.length + y.length ≤ sizeLine by omega), gro, if_pos zl, List.map_append]
  · refine ⟨t, wt, .d true (.int (v / 3 + 7 * many)), ?_⟩
    simp only [run, exB, exS, ev, evs, evp, sets, enOf, vl, val_d, val_o, tr_b, tr_l, List.length_cons, List.length_nil, Nat.zero_add, Nat.reduceAdd, Nat.reduceSub, if_true, ite_true, List.map_cons, List.map_nil, List.map_id', Option.bind_some, Option.map_some, List.getElem?_cons_zero, List.getElem?_cons_succ, List.cons_append, List.nil_append, List.append_nil, List.replicate_succ, List.replicate_zero, List.set_cons_zero, List.set_cons_succ, wipeE, tg_nm, tg_2, tg_3, asI, asB, cpr_T, cprT_map, cprT_filter, it_enc, len_enc, isi_list, ix_k0, ix_k1, ix_r0, ix_r1, ix_r2, fold_list, Bool.not_true, Bool.not_false, reduceIte, decide_true, decide_false, Bool.and_true, Bool.and_false, Bool.true_and, Bool.false_and, Bool.or_true, Bool.or_false, Bool.true_or, Bool.false_or, cond_bind, cond_omap, and_b, or_b, chn_b, cond_true, cond_false, thn_nx, thn_rt, res_rt, res_nx, cond_res, cond_arb, isi_ky, isi_row, isi_str, len_ky, len_row, lv_true, lv_list, lv_bool, lv_int, lv_none, lv_str, lv_imm, eq_int, ne_int, eq_str, ne_str, lt_int, le_int, gt_int, ge_int, in_str, nin_str, in_int, nin_int, in_strs, it_zip_enc, it_enum_enc, sl_enc, slP_int, slP_none, val_mkO, mkO_imm, mkD_imm, mkD_list, mkD_row, list_enc, sz0, sz1, sz2, sz3, sz4, sz5, sz8, sz16, fold_row, fold_ky, lvs, List.all_cons, List.all_nil, all_enc, any_benc, mkL_bool, mkL_str, mkL_int, mkL_map, enc_int, enc_str, enc_bool, bin_mod _ _ (show (0 : Int) < 5 by omega), bin_add, gc _ _ _ (show 0 ≤ by_ + x % 5 by omega), bin_mod _ _ (show (0 : Int) < 7 by omega), hv, bin_fdv _ _ (cdiv v (show (0 : Int) < 3 by omega) (by omega)), mul_s _ _ 7 many (by omega) (by omega) m0 (by omega), jk, bin_mod _ _ j0, et, bin_fdv _ _ (cdiv _ (show (0 : Int) < 8 by omega) (by omega)), q, gro, if_pos zl, List.map_append]
end T2.Q
end
section
set_option Elab.async false
set_option linter.all false
set_option autoImplicit false
set_option maxRecDepth 100000
namespace T2.Q
open PySem PySem.Spec L2 T2
open T2.Py (enc)
/-! ### rising lists -/
section
variable {α : Type} [Py α]
theorem rising_cons (x y : α) (l : List α) : rising (x :: y :: l) = (ltb x y && rising (y :: l)) := by
  simp [rising]
theorem rising_of : ∀ {xs : List α}, xs.Pairwise (fun a b => ltb a b = true) → rising xs = true
  | [], _ => rfl
  | [x], _ => rfl
  | x :: y :: l, h => by
    rw [rising_cons, Bool.and_eq_true]
    rw [List.pairwise_cons] at h
    exact ⟨h.1 y List.mem_cons_self, rising_of h.2⟩
theorem of_rising : ∀ {xs : List α}, rising xs = true → xs.Pairwise (fun a b => ltb a b = true)
  | [], _ => List.Pairwise.nil
  | [x], _ => List.pairwise_singleton _ _
  | x :: y :: l, h => by
    rw [rising_cons, Bool.and_eq_true] at h
    have ih := of_rising h.2
    refine List.pairwise_cons.mpr ⟨fun z hz => ?_, ih⟩
    rcases List.mem_cons.mp hz with rfl | hz
    · exact h.1
    · exact ltb_trans h.1 ((List.pairwise_cons.mp ih).1 z hz)
theorem ltb_of {x y : α} (h : ltb y x = false) (n : x ≠ y) : ltb x y = true := by
  cases q : ltb x y with
  | true => rfl
  | false => exact absurd (ltb_tri q h) n
theorem srt_rising {xs : List α} (n : xs.Nodup) : rising (srt xs) = true := by
  apply rising_of
  have h1 := srt_sorted xs
  have h2 : (srt xs).Nodup := (srt_perm xs).nodup_iff.mpr n
  exact (h1.and h2).imp fun {a b} h => ltb_of h.1 h.2
theorem sset_rising [DecidableEq α] (xs : List α) : rising (sset xs) = true := srt_rising (nodup_dd xs)
theorem mem_sset [DecidableEq α] {xs : List α} {x : α} : x ∈ sset xs ↔ x ∈ xs := by
  unfold sset
  rw [srt_mem, mem_dd]
theorem dd_len [DecidableEq α] : ∀ xs : List α, (dd xs).length ≤ xs.length
  | [] => Nat.le_refl _
  | x :: xs => by
    have := dd_len xs
    rw [dd]
    split <;> simp only [List.length_cons] <;> omega
theorem sset_len [DecidableEq α] (xs : List α) : (sset xs).length ≤ xs.length := by
  unfold sset
  rw [srt_len]
  exact dd_len xs
end
theorem ltb_row {r s : Row} (h : r.a ≠ s.a) : ltb r s = ltb r.a s.a := by
  show PySem.W.dataLt (.tuple [enc r.a, enc r.b, enc r.c]) (.tuple [enc s.a, enc s.b, enc s.c]) = _
  rw [PySem.W.dataLt_tuple, PySem.W.dataLt_cons (Py.alk r.a s.a), Py.eqv, decide_eq_false h]
  rfl
theorem pw_map {α β : Type} {R : β → β → Prop} (f : α → β) : ∀ {xs : List α}, xs.Pairwise (fun a b => R (f a) (f b)) → (xs.map f).Pairwise R := fun h => List.pairwise_map.mpr h
theorem rows_rising {xs : List Row} (n : (xs.map (·.a)).Nodup) : rising ((srt xs).map (·.a)) = true := by
  apply rising_of
  apply pw_map
  have h1 := srt_sorted xs
  have h2 : ((srt xs).map (·.a)).Nodup := ((srt_perm xs).map (·.a)).nodup_iff.mpr n
  have h3 := List.pairwise_map.mp h2
  exact (h1.and h3).imp fun {a b} h => by
    have := ltb_row (r := b) (s := a) (fun e => h.2 e.symm)
    rw [h.1] at this
    exact ltb_of this.symm h.2
/-! ### a drawn row -/
theorem row_point (f : Fu) (hk : ∀ l n, 0 ≤ n → ∃ k : Ky, f [(l, .int n)] = some (true, enc k) ∧ isKey k = true) (gl : List (Str × PyData)) (n1 n2 n3 : Str) (fv fc : Fu) (v0 v1 v2 v3 v4 v5 v7 v8 v9 : En) (n : Int) (h0 : 0 ≤ n) (x : Int) (x0 : 0 ≤ x) (x1 : x < 4) (ks : List Ky) (hl : ks.length ≤ 10) :
    ∃ k : Ky, isKey k = true ∧ exB ⟨[], [(n1, fv), (n2, fc), (n3, f)]⟩ [.app 6 (.cal 2 [(.bin .fdv (.bin .fdv (.var 10) (.lit (.int 7))) (.bin .add (.bin .mul (.lit (.int 5)) (.var 11)) (.lit (.int 1))))])] [v0, v1, v2, v3, v4, v5, .o true (ks.map enc), v7, v8, v9, .d true (.int n), .d true (.int x)] = some (.nx [v0, v1, v2, v3, v4, v5, .o true ((ks ++ [k]).map enc), v7, v8, v9, .d true (.int n), .d true (.int x)]) := by
  have n7 : 0 ≤ n / 7 := Int.ediv_nonneg h0 (by omega)
  obtain ⟨k, e, hk⟩ := hk true (n / 7 / (5 * x + 1)) (Int.ediv_nonneg n7 (by omega))
  refine ⟨k, hk, ?_⟩
  have big : 100 ≤ sizeLine := by decide
  have zl : (ks.map enc).length < sizeLine := by rw [List.length_map]; omega
  simp only [run, exB, exS, ev, evs, evp, sets, enOf, vl, val_d, val_o, tr_b, tr_l, List.length_cons, List.length_nil, Nat.zero_add, Nat.reduceAdd, Nat.reduceSub, if_true, ite_true, List.map_cons, List.map_nil, List.map_id', Option.bind_some, Option.map_some, List.getElem?_cons_zero, List.getElem?_cons_succ, List.cons_append, List.nil_append, List.append_nil, List.replicate_succ, List.replicate_zero, List.set_cons_zero, List.set_cons_succ, wipeE, tg_nm, tg_2, tg_3, asI, asB, cpr_T, cprT_map, cprT_filter, it_enc, len_enc, isi_list, ix_k0, ix_k1, ix_r0, ix_r1, ix_r2, fold_list, Bool.not_true, Bool.not_false, reduceIte, decide_true, decide_false, Bool.and_true, Bool.and_false, Bool.true_and, Bool.false_and, Bool.or_true, Bool.or_false, Bool.true_or, Bool.false_or, cond_bind, cond_omap, and_b, or_b, chn_b, cond_true, cond_false, thn_nx, thn_rt, res_rt, res_nx, cond_res, cond_arb, isi_ky, isi_row, isi_str, len_ky, len_row, lv_true, lv_list, lv_bool, lv_int, lv_none, lv_str, lv_imm, eq_int, ne_int, eq_str, ne_str, lt_int, le_int, gt_int, ge_int, in_str, nin_str, in_int, nin_int, in_strs, it_zip_enc, it_enum_enc, sl_enc, slP_int, slP_none, val_mkO, mkO_imm, mkD_imm, mkD_list, mkD_row, list_enc, sz0, sz1, sz2, sz3, sz4, sz5, sz8, sz16, fold_row, fold_ky, lvs, List.all_cons, List.all_nil, all_enc, any_benc, mkL_bool, mkL_str, mkL_int, mkL_map, enc_int, enc_str, enc_bool, bin_fdv _ _ (cdiv n (show (0 : Int) < 7 by omega) (by omega)), mul_s _ _ 5 x (by omega) (by omega) x0 (by omega), bin_add, bin_fdv _ _ (cdiv (n / 7) (show (0 : Int) < 5 * x + 1 by omega) (by omega)), e, gro, if_pos zl, List.map_append]
end T2.Q
end
section
set_option Elab.async false
set_option linter.all false
set_option autoImplicit false
set_option maxRecDepth 100000
namespace T2.Q
open PySem PySem.Spec L2 T2
open T2.Py (enc)
def bF : List CS := [.set 8 (.bin .add (.bin .fdv (.cal 0 [(.cal 1 [(.var 0), (.bin .add (.var 1) (.bin .mod (.var 7) (.lit (.int 5))))]), (.bin .add (.bin .add (.lit (.int 3)) (.var 7)) (.bin .mod (.var 2) (.lit (.int 7))))]) (.lit (.int 3))) (.bin .mul (.lit (.int 7)) (.var 2))),
    .set 9 (.ix (.tup [(.lit (.str (Str.ofString ""))), (.lit (.str (Str.ofString "a"))), (.lit (.str (Str.ofString "b"))), (.lit (.str (Str.ofString "ab"))), (.lit (.str (Str.ofString "twelveletter"))), (.lit (.str (Str.ofString "c"))), (.lit (.str (Str.ofString ""))), (.lit (.str (Str.ofString "a")))]) (.bin .mod (.var 8) (.ix (.tup [(.lit (.int 3)), (.lit (.int 8)), (.lit (.int 5))]) (.var 4)))),
    .ifs (.cmp .eq (.bin .mod (.bin .fdv (.var 8) (.lit (.int 8))) (.lit (.int 5))) (.lit (.int 0))) [.set 9 (.bin .add (.ix (.lit (.str (Str.ofString "abcdefghijklmnopqrstuvwxyz"))) (.bin .mod (.bin .fdv (.var 8) (.lit (.int 40))) (.lit (.int 26)))) (.sl (.var 9) (.lit .none) (.lit (.int 3))))] [],
    .app 5 (.var 9)]
def bP : List CS := [.app 6 (.cal 2 [(.bin .fdv (.bin .fdv (.var 10) (.lit (.int 7))) (.bin .add (.bin .mul (.lit (.int 5)) (.var 11)) (.lit (.int 1))))])]
theorem b_row_eq : b_law_row = [.par [(5, true, (.lst [])), (6, true, (.lst []))],
    .fo .rng [(.var 3)] (.nm 7) bF,
    .set 10 (.bin .add (.bin .fdv (.cal 0 [(.cal 1 [(.var 0), (.bin .add (.var 1) (.bin .mod (.var 2) (.lit (.int 5))))]), (.bin .add (.lit (.int 6)) (.bin .mod (.var 2) (.lit (.int 5))))]) (.lit (.int 3))) (.bin .mul (.lit (.int 13)) (.var 2))),
    .fo .rng [(.bin .mod (.var 10) (.lit (.int 4)))] (.nm 11) bP,
    .clo 5,
    .clo 6,
    .ret (.tup [(.cal 2 [(.bin .add (.bin .fdv (.var 10) (.lit (.int 3))) (.bin .mul (.lit (.int 5)) (.var 2)))]), (.var 5), (.sset (.var 6))])] := rfl
theorem mkL_nil : mkL [] = .o true [] := rfl
theorem app_snoc {α : Type} {p : α → Prop} {xs : List α} {x : α} (h : ∀ y ∈ xs, p y) (hx : p x) : ∀ y ∈ xs ++ [x], p y := fun y hy => by
  rcases List.mem_append.mp hy with z | z
  · exact h y z
  · rw [List.mem_singleton.mp z]; exact hx
theorem row_run {e : Nat} {ns : List Int} {fv fc fk : Fu} {n1 n2 n3 : Str} (D : Drw e ns fv fc fk) (l0 l1 l2 l3 l4 : Bool) (by_ many wide kind : Int) (b0 : 0 ≤ by_) (m0 : 0 ≤ many) (m1 : many ≤ 100) (w0 : 1 ≤ wide) (w1 : wide ≤ 3) (k0 : 0 ≤ kind) (k1 : kind ≤ 2) :
    ∃ r : Row, isRow r = true ∧ (r.b.length : Int) = wide ∧ run ⟨[], [(n1, fv), (n2, fc), (n3, fk)]⟩ 5 12 b_law_row [(l0, enc ns), (l1, .int by_), (l2, .int many), (l3, .int wide), (l4, .int kind)] = some (true, enc r) := by
  rw [b_row_eq]
  obtain ⟨Γ1, h1, fs, v7, v8, v9, hl, hw, rfl⟩ := lop_all (e := enc) (f := fun Γ d => exB ⟨[], [(n1, fv), (n2, fc), (n3, fk)]⟩ bF (Γ.set 7 (.d true d))) (fun done Γ => ∃ (fs : List Str) (v7 v8 v9 : En), fs.length = done.length ∧ (∀ t ∈ fs, isWord t 0 12 = true) ∧ Γ = [.d l0 (enc ns), .d l1 (.int by_), .d l2 (.int many), .d l3 (.int wide), .d l4 (.int kind), .o true (fs.map enc), .o true [], v7, v8, v9, .no, .no]) (rngL 0 1 wide.toNat) [.d l0 (enc ns), .d l1 (.int by_), .d l2 (.int many), .d l3 (.int wide), .d l4 (.int kind), .o true [], .o true [], .no, .no, .no, .no, .no] ⟨[], .no, .no, .no, rfl, by simp, rfl⟩ (by
    rintro d x r Γ hd ⟨fs, v7, v8, v9, hl, hw, rfl⟩
    have hx := rng_mem (show x ∈ rngL 0 1 wide.toNat by rw [hd]; simp)
    have hn : (rngL 0 1 wide.toNat).length = wide.toNat := rngL_len ..
    have hq : fs.length ≤ 10 := by rw [hd, List.length_append, List.length_cons] at hn; omega
    obtain ⟨t, ht, w8, hf⟩ := row_field e ns fv fc fk n1 n2 n3 D l0 l1 l2 l3 l4 by_ many wide kind b0 m0 m1 k0 k1 x hx.1 (by omega) fs hq v7 v8 v9
    exact ⟨_, hf, fs ++ [t], _, w8, _, by simp [hl], app_snoc hw ht, rfl⟩)
  have hn : (rngL 0 1 wide.toNat).length = wide.toNat := rngL_len ..
  rw [hn] at hl
  obtain ⟨g, gb, gc⟩ := D.c
  obtain ⟨v, hv, v0, vb⟩ := D.v true true (g (by_ + many % 5)) (6 + many % 5) (gb _) (by omega) (by omega)
  have q3 := Int.ediv_nonneg v0 (show (0 : Int) ≤ 3 by omega)
  have q0 : 0 ≤ v / 3 + 13 * many := by omega
  generalize hn : v / 3 + 13 * many = n at *
  obtain ⟨k, hk, kk⟩ := D.k true (n / 3 + 5 * many) (by have := Int.ediv_nonneg q0 (show (0 : Int) ≤ 3 by omega); omega)
  obtain ⟨Γ2, h2, ks, v11, hl2, hw2, rfl⟩ := lop_all (e := enc) (f := fun Γ d => exB ⟨[], [(n1, fv), (n2, fc), (n3, fk)]⟩ bP (Γ.set 11 (.d true d))) (fun done Γ => ∃ (ks : List Ky) (v11 : En), ks.length = done.length ∧ (∀ t ∈ ks, isKey t = true) ∧ Γ = [.d l0 (enc ns), .d l1 (.int by_), .d l2 (.int many), .d l3 (.int wide), .d l4 (.int kind), .o true (fs.map enc), .o true (ks.map enc), v7, v8, v9, .d true (.int n), v11]) (rngL 0 1 (n % 4).toNat) [.d l0 (enc ns), .d l1 (.int by_), .d l2 (.int many), .d l3 (.int wide), .d l4 (.int kind), .o true (fs.map enc), .o true [], v7, v8, v9, .d true (.int n), .no] ⟨[], .no, rfl, by simp, rfl⟩ (by
    rintro d x r Γ hd ⟨ks, v11, hl, hw, rfl⟩
    have hx := rng_mem (show x ∈ rngL 0 1 (n % 4).toNat by rw [hd]; simp)
    have hn : (rngL 0 1 (n % 4).toNat).length = (n % 4).toNat := rngL_len ..
    have hq : ks.length ≤ 10 := by rw [hd, List.length_append, List.length_cons] at hn; omega
    obtain ⟨t, ht, hf⟩ := row_point fk D.k [] n1 n2 n3 fv fc (.d l0 (enc ns)) (.d l1 (.int by_)) (.d l2 (.int many)) (.d l3 (.int wide)) (.d l4 (.int kind)) (.o true (fs.map enc)) v7 v8 v9 n q0 x hx.1 (by omega) ks hq
    exact ⟨_, hf, ks ++ [t], _, by simp [hl], app_snoc hw ht, rfl⟩)
  have hn2 : (rngL 0 1 (n % 4).toNat).length = (n % 4).toNat := rngL_len ..
  rw [hn2] at hl2
  refine ⟨⟨k, fs, sset ks⟩, ?_, by show (fs.length : Int) = wide; omega, ?_⟩
  · have s1 := sset_len ks
    simp only [isRow, kk, areKeys, sset_rising, Bool.true_and, Bool.and_true, Bool.and_eq_true, decide_eq_true_eq, List.all_eq_true]
    exact ⟨⟨by omega, by omega⟩, hw, fun k hk => hw2 k (mem_sset.mp hk), by omega⟩
  · simp only [run, exB, exS, ev, evs, evp, sets, enOf, vl, val_d, val_o, tr_b, tr_l, List.length_cons, List.length_nil, Nat.zero_add, Nat.reduceAdd, Nat.reduceSub, if_true, ite_true, List.map_cons, List.map_nil, List.map_id', Option.bind_some, Option.map_some, List.getElem?_cons_zero, List.getElem?_cons_succ, List.cons_append, List.nil_append, List.append_nil, List.replicate_succ, List.replicate_zero, List.set_cons_zero, List.set_cons_succ, wipeE, tg_nm, tg_2, tg_3, asI, asB, cpr_T, cprT_map, cprT_filter, it_enc, len_enc, isi_list, ix_k0, ix_k1, ix_r0, ix_r1, ix_r2, fold_list, Bool.not_true, Bool.not_false, reduceIte, decide_true, decide_false, Bool.and_true, Bool.and_false, Bool.true_and, Bool.false_and, Bool.or_true, Bool.or_false, Bool.true_or, Bool.false_or, cond_bind, cond_omap, and_b, or_b, chn_b, cond_true, cond_false, thn_nx, thn_rt, res_rt, res_nx, cond_res, cond_arb, isi_ky, isi_row, isi_str, len_ky, len_row, lv_true, lv_list, lv_bool, lv_int, lv_none, lv_str, lv_imm, eq_int, ne_int, eq_str, ne_str, lt_int, le_int, gt_int, ge_int, in_str, nin_str, in_int, nin_int, in_strs, it_zip_enc, it_enum_enc, sl_enc, slP_int, slP_none, val_mkO, mkO_imm, mkD_imm, mkD_list, mkD_row, list_enc, sz0, sz1, sz2, sz3, sz4, sz5, sz8, sz16, fold_row, fold_ky, lvs, List.all_cons, List.all_nil, all_enc, any_benc, mkL_bool, mkL_str, mkL_int, mkL_map, enc_int, enc_str, enc_bool, mkL_nil, it_rng1 _ wide (by omega) (by omega), h1, bin_mod _ _ (show (0 : Int) < 5 by omega), bin_add, gc _ _ _ (show 0 ≤ by_ + many % 5 by omega), hv, bin_fdv _ _ (cdiv v (show (0 : Int) < 3 by omega) (by omega)), mul_s _ _ 13 many (by omega) (by omega) m0 (by omega), hn, bin_mod _ _ (show (0 : Int) < 4 by omega), it_rng1 _ (n % 4) (by omega) (by omega), h2, bin_fdv _ _ (cdiv n (show (0 : Int) < 3 by omega) (by omega)), mul_s _ _ 5 many (by omega) (by omega) m0 (by omega), hk, sset_ky ks (by omega)]
    rfl
end T2.Q
end
section
set_option Elab.async false
set_option linter.all false
set_option autoImplicit false
set_option maxRecDepth 100000
namespace T2.Q
open PySem PySem.Spec L2 T2
open T2.Py (enc)
theorem srt_row (b : Bool) (xs : List Row) : bltD .sorted [(b, enc xs)] = some (mkO b ((srt xs).map enc)) := by
  show (if srtOk (xs.map enc) then some (mkO b (srtD (xs.map enc))) else none) = _
  have : srtOk (xs.map enc) = true := by
    unfold srtOk
    simp only [Bool.and_eq_true, Bool.or_eq_true, List.all_eq_true]
    refine ⟨⟨?_, .inl ?_⟩, ?_⟩
    · intro a ha c hc
      obtain ⟨x, _, rfl⟩ := List.mem_map.mp ha
      obtain ⟨y, _, rfl⟩ := List.mem_map.mp hc
      exact Py.alk x y
    · intro a ha
      obtain ⟨x, _, rfl⟩ := List.mem_map.mp ha
      rfl
    · intro a ha
      obtain ⟨x, _, rfl⟩ := List.mem_map.mp ha
      rw [decide_eq_true_eq]
      exact Nat.le_trans (Py.dep x) (by decide)
  rw [if_pos this, ksrt_enc]
/-- a drawn row's def -/
def DrR (ns : List Int) (fr : Fu) : Prop := ∀ (l0 l1 l2 l3 l4 : Bool) (by_ many wide kind : Int), 0 ≤ by_ → 0 ≤ many → many ≤ 100 → 1 ≤ wide → wide ≤ 3 → 0 ≤ kind → kind ≤ 2 → ∃ r : Row, isRow r = true ∧ (r.b.length : Int) = wide ∧ fr [(l0, enc ns), (l1, .int by_), (l2, .int many), (l3, .int wide), (l4, .int kind)] = some (true, enc r)
def bH : List CS := [.set 8 (.cal 2 [(.var 0), (.var 1), (.var 7), (.var 4), (.var 5)]),
    .ifs (.pk 6 (.cmp .notIn (.ix (.var 8) (.lit (.int 0))) (.lc [((Str.ofString "_law_one"), 9)] .seq [(.var 6)] (.nm 9) (.ix (.var 9) (.lit (.int 0)))))) [.app 6 (.var 8)] []]
theorem b_hold_eq : b_law_holding = [.set 3 (.cal 0 [(.var 0), (.var 1)]),
    .set 2 (.ife (.and (.cmp .gt (.var 2) (.lit (.int 5))) (.one (.cmp .eq (.bin .mod (.cal 1 [(.var 3), (.lit (.int 15))]) (.lit (.int 16))) (.lit (.int 5))))) (.lit (.int 10)) (.var 2)),
    .par [(4, false, (.bin .add (.lit (.int 1)) (.bin .mod (.cal 1 [(.var 3), (.lit (.int 1))]) (.lit (.int 3))))), (5, false, (.bin .mod (.cal 1 [(.var 3), (.lit (.int 5))]) (.lit (.int 3)))), (6, true, (.lst []))],
    .fo .rng [(.bin .mod (.cal 1 [(.var 3), (.lit (.int 2))]) (.bin .add (.var 2) (.lit (.int 1))))] (.nm 7) bH,
    .clo 6,
    .ret (.blt .sorted [(.var 6)])] := rfl
theorem imm_b (c : Bool) : imm (.bool c) = true := rfl
theorem keys_lc (b : Bool) (xs : List Row) : mkL (xs.map fun x => (b, (enc x.a : PyData))) = .o true ((xs.map (·.a)).map enc) := mkL_imm xs (fun _ => b) (·.a)
theorem hold_row (n1 n2 n3 : Str) (fc fv fr : Fu) (ns : List Int) (R : DrR ns fr) (l0 l1 : Bool) (v2 v3 v8 v9 : En) (l4 l5 : Bool) (by_ wide kind : Int) (b0 : 0 ≤ by_) (w0 : 1 ≤ wide) (w1 : wide ≤ 3) (k0 : 0 ≤ kind) (k1 : kind ≤ 2) (x : Int) (x0 : 0 ≤ x) (x1 : x ≤ 100) (rs : List Row) (hl : rs.length ≤ 50) :
    ∃ r : Row, isRow r = true ∧ (r.b.length : Int) = wide ∧ exB ⟨[], [(n1, fc), (n2, fv), (n3, fr)]⟩ bH [.d l0 (enc ns), .d l1 (.int by_), v2, v3, .d l4 (.int wide), .d l5 (.int kind), .o true (rs.map enc), .d true (.int x), v8, v9] = some (.nx [.d l0 (enc ns), .d l1 (.int by_), v2, v3, .d l4 (.int wide), .d l5 (.int kind), .o true ((if isIn r.a (rs.map (·.a)) then rs else rs ++ [r]).map enc), .d true (.int x), .d true (enc r), v9]) := by
  obtain ⟨r, h1, h2, h3⟩ := R l0 l1 true l4 l5 by_ x wide kind b0 x0 x1 w0 w1 k0 k1
  refine ⟨r, h1, h2, ?_⟩
  have big : 100 ≤ sizeLine := by decide
  have zl : (rs.map (enc : Row → PyData)).length < sizeLine := by rw [List.length_map]; omega
  simp only [bH, run, exB, exS, ev, evs, evp, sets, enOf, vl, val_d, val_o, tr_b, tr_l, List.length_cons, List.length_nil, Nat.zero_add, Nat.reduceAdd, Nat.reduceSub, if_true, ite_true, List.map_cons, List.map_nil, List.map_id', Option.bind_some, Option.map_some, List.getElem?_cons_zero, List.getElem?_cons_succ, List.cons_append, List.nil_append, List.append_nil, List.replicate_succ, List.replicate_zero, List.set_cons_zero, List.set_cons_succ, wipeE, tg_nm, tg_2, tg_3, asI, asB, cpr_T, cprT_map, cprT_filter, it_enc, len_enc, isi_list, ix_k0, ix_k1, ix_r0, ix_r1, ix_r2, fold_list, Bool.not_true, Bool.not_false, reduceIte, decide_true, decide_false, Bool.and_true, Bool.and_false, Bool.true_and, Bool.false_and, Bool.or_true, Bool.or_false, Bool.true_or, Bool.false_or, cond_bind, cond_omap, and_b, or_b, chn_b, cond_true, cond_false, thn_nx, thn_rt, res_rt, res_nx, cond_res, cond_arb, isi_ky, isi_row, isi_str, len_ky, len_row, lv_true, lv_list, lv_bool, lv_int, lv_none, lv_str, lv_imm, eq_int, ne_int, eq_str, ne_str, lt_int, le_int, gt_int, ge_int, in_str, nin_str, in_int, nin_int, in_strs, it_zip_enc, it_enum_enc, sl_enc, slP_int, slP_none, val_mkO, mkO_imm, mkD_imm, mkD_list, mkD_row, list_enc, sz0, sz1, sz2, sz3, sz4, sz5, sz8, sz16, fold_row, fold_ky, lvs, List.all_cons, List.all_nil, all_enc, any_benc, mkL_bool, mkL_str, mkL_int, mkL_map, enc_int, enc_str, enc_bool, h3, keys_lc, nin_enc _ _ (show Py.dp Ky ≤ 60 by decide), imm_b]
  cases q : isIn r.a (rs.map (·.a))
  · simp only [run, exB, exS, ev, evs, evp, sets, enOf, vl, val_d, val_o, tr_b, tr_l, List.length_cons, List.length_nil, Nat.zero_add, Nat.reduceAdd, Nat.reduceSub, if_true, ite_true, List.map_cons, List.map_nil, List.map_id', Option.bind_some, Option.map_some, List.getElem?_cons_zero, List.getElem?_cons_succ, List.cons_append, List.nil_append, List.append_nil, List.replicate_succ, List.replicate_zero, List.set_cons_zero, List.set_cons_succ, wipeE, tg_nm, tg_2, tg_3, asI, asB, cpr_T, cprT_map, cprT_filter, it_enc, len_enc, isi_list, ix_k0, ix_k1, ix_r0, ix_r1, ix_r2, fold_list, Bool.not_true, Bool.not_false, reduceIte, decide_true, decide_false, Bool.and_true, Bool.and_false, Bool.true_and, Bool.false_and, Bool.or_true, Bool.or_false, Bool.true_or, Bool.false_or, cond_bind, cond_omap, and_b, or_b, chn_b, cond_true, cond_false, thn_nx, thn_rt, res_rt, res_nx, cond_res, cond_arb, isi_ky, isi_row, isi_str, len_ky, len_row, lv_true, lv_list, lv_bool, lv_int, lv_none, lv_str, lv_imm, eq_int, ne_int, eq_str, ne_str, lt_int, le_int, gt_int, ge_int, in_str, nin_str, in_int, nin_int, in_strs, it_zip_enc, it_enum_enc, sl_enc, slP_int, slP_none, val_mkO, mkO_imm, mkD_imm, mkD_list, mkD_row, list_enc, sz0, sz1, sz2, sz3, sz4, sz5, sz8, sz16, fold_row, fold_ky, lvs, List.all_cons, List.all_nil, all_enc, any_benc, mkL_bool, mkL_str, mkL_int, mkL_map, enc_int, enc_str, enc_bool, gro, if_pos zl, List.map_append, Bool.false_eq_true, if_false]
  · simp only [run, exB, exS, ev, evs, evp, sets, enOf, vl, val_d, val_o, tr_b, tr_l, List.length_cons, List.length_nil, Nat.zero_add, Nat.reduceAdd, Nat.reduceSub, if_true, ite_true, List.map_cons, List.map_nil, List.map_id', Option.bind_some, Option.map_some, List.getElem?_cons_zero, List.getElem?_cons_succ, List.cons_append, List.nil_append, List.append_nil, List.replicate_succ, List.replicate_zero, List.set_cons_zero, List.set_cons_succ, wipeE, tg_nm, tg_2, tg_3, asI, asB, cpr_T, cprT_map, cprT_filter, it_enc, len_enc, isi_list, ix_k0, ix_k1, ix_r0, ix_r1, ix_r2, fold_list, Bool.not_true, Bool.not_false, reduceIte, decide_true, decide_false, Bool.and_true, Bool.and_false, Bool.true_and, Bool.false_and, Bool.or_true, Bool.or_false, Bool.true_or, Bool.false_or, cond_bind, cond_omap, and_b, or_b, chn_b, cond_true, cond_false, thn_nx, thn_rt, res_rt, res_nx, cond_res, cond_arb, isi_ky, isi_row, isi_str, len_ky, len_row, lv_true, lv_list, lv_bool, lv_int, lv_none, lv_str, lv_imm, eq_int, ne_int, eq_str, ne_str, lt_int, le_int, gt_int, ge_int, in_str, nin_str, in_int, nin_int, in_strs, it_zip_enc, it_enum_enc, sl_enc, slP_int, slP_none, val_mkO, mkO_imm, mkD_imm, mkD_list, mkD_row, list_enc, sz0, sz1, sz2, sz3, sz4, sz5, sz8, sz16, fold_row, fold_ky, lvs, List.all_cons, List.all_nil, all_enc, any_benc, mkL_bool, mkL_str, mkL_int, mkL_map, enc_int, enc_str, enc_bool]
theorem hold_run {e : Nat} {ns : List Int} {fv fc fk fr : Fu} {n1 n2 n3 : Str} (D : Drw e ns fv fc fk) (R : DrR ns fr) (l0 l1 l2 : Bool) (by_ most : Int) (b0 : 0 ≤ by_) (m0 : 0 ≤ most) (m1 : most ≤ 10) :
    ∃ h : List Row, isHolding h = true ∧ run ⟨[], [(n1, fc), (n2, fv), (n3, fr)]⟩ 3 10 b_law_holding [(l0, enc ns), (l1, .int by_), (l2, .int most)] = some (true, enc h) := by
  rw [b_hold_eq]
  obtain ⟨g, gb, gc⟩ := D.c
  obtain ⟨v15, e15, p15, _⟩ := D.v true true (g by_) 15 (gb _) (by omega) (by omega)
  obtain ⟨v1, e1, p1, _⟩ := D.v true true (g by_) 1 (gb _) (by omega) (by omega)
  obtain ⟨v5, e5, p5, _⟩ := D.v true true (g by_) 5 (gb _) (by omega) (by omega)
  obtain ⟨v2, e2, p2, _⟩ := D.v true true (g by_) 2 (gb _) (by omega) (by omega)
  obtain ⟨mo, lm, hm, q0, q1⟩ : ∃ (mo : Int) (lm : Bool), cond (decide (5 < most) && decide (v15 % 16 = 5)) (some (En.d true (.int 10))) (some (En.d l2 (.int most))) = some (.d lm (.int mo)) ∧ 0 ≤ mo ∧ mo ≤ 10 := by
    cases decide (5 < most) && decide (v15 % 16 = 5)
    · exact ⟨most, l2, rfl, m0, m1⟩
    · exact ⟨10, true, rfl, by omega, by omega⟩
  have z0 := Int.emod_nonneg v2 (show mo + 1 ≠ 0 by omega)
  have z1 := Int.emod_lt_of_pos v2 (show 0 < mo + 1 by omega)
  obtain ⟨Γ1, h1, rs, w7, w8, hl, hr, hw, hn, rfl⟩ := lop_all (e := enc) (f := fun Γ d => exB ⟨[], [(n1, fc), (n2, fv), (n3, fr)]⟩ bH (Γ.set 7 (.d true d))) (fun done Γ => ∃ (rs : List Row) (v7 v8 : En), rs.length ≤ done.length ∧ (∀ r ∈ rs, isRow r = true) ∧ (∀ r ∈ rs, (r.b.length : Int) = 1 + v1 % 3) ∧ (rs.map (·.a)).Nodup ∧ Γ = [.d l0 (enc ns), .d l1 (.int by_), .d lm (.int mo), .d true (.int (g by_)), .d true (.int (1 + v1 % 3)), .d true (.int (v5 % 3)), .o true (rs.map enc), v7, v8, .no]) (rngL 0 1 (v2 % (mo + 1)).toNat) [.d l0 (enc ns), .d l1 (.int by_), .d lm (.int mo), .d true (.int (g by_)), .d true (.int (1 + v1 % 3)), .d true (.int (v5 % 3)), .o true [], .no, .no, .no] ⟨[], .no, .no, Nat.le_refl _, by simp, by simp, List.nodup_nil, rfl⟩ (by
    rintro d x r Γ hd ⟨rs, v7, v8, hl, hr, hw, hn, rfl⟩
    have hx := rng_mem (show x ∈ rngL 0 1 (v2 % (mo + 1)).toNat by rw [hd]; simp)
    have hq : (rngL 0 1 (v2 % (mo + 1)).toNat).length = (v2 % (mo + 1)).toNat := rngL_len ..
    have hq : rs.length ≤ 50 := by rw [hd, List.length_append, List.length_cons] at hq; omega
    obtain ⟨t, t1, t2, hf⟩ := hold_row n1 n2 n3 fc fv fr ns R l0 l1 (.d lm (.int mo)) (.d true (.int (g by_))) v8 .no true true by_ (1 + v1 % 3) (v5 % 3) b0 (by omega) (by omega) (by omega) (by omega) x hx.1 (by omega) rs hq
    refine ⟨_, hf, _, _, _, ?_, ?_, ?_, ?_, rfl⟩
    · rw [List.length_append]; split <;> simp only [List.length_append, List.length_cons, List.length_nil] <;> omega
    · split
      · exact hr
      · exact app_snoc hr t1
    · split
      · exact hw
      · exact app_snoc hw t2
    · split
      · exact hn
      · rename_i q
        have q' : t.a ∉ rs.map (·.a) := fun z => q (isIn_iff.mpr z)
        rw [List.map_append, List.nodup_append]
        refine ⟨hn, by simp, fun a ha b hb => ?_⟩
        simp only [List.map_cons, List.map_nil, List.mem_singleton] at hb
        subst hb
        exact fun z => q' (z ▸ ha))
  have hq : (rngL 0 1 (v2 % (mo + 1)).toNat).length = (v2 % (mo + 1)).toNat := rngL_len ..
  rw [hq] at hl
  refine ⟨srt rs, ?_, ?_⟩
  · simp only [isHolding, rows_rising hn, Bool.true_and, Bool.and_true, Bool.and_eq_true, decide_eq_true_eq, List.all_eq_true, srt_len]
    refine ⟨by omega, fun r h => hr r (srt_mem.mp h), fun r h => ?_⟩
    rw [hw r (srt_mem.mp h)]
    cases q : (srt rs).head? with
    | none =>
      rw [List.head?_eq_none_iff.mp q] at h
      exact absurd h (by simp)
    | some s =>
      have := hw s (srt_mem.mp (List.mem_of_head? q))
      simp only [Option.map_some, Option.getD_some]
      exact this.symm
  · simp only [run, exB, exS, ev, evs, evp, sets, enOf, vl, val_d, val_o, tr_b, tr_l, List.length_cons, List.length_nil, Nat.zero_add, Nat.reduceAdd, Nat.reduceSub, if_true, ite_true, List.map_cons, List.map_nil, List.map_id', Option.bind_some, Option.map_some, List.getElem?_cons_zero, List.getElem?_cons_succ, List.cons_append, List.nil_append, List.append_nil, List.replicate_succ, List.replicate_zero, List.set_cons_zero, List.set_cons_succ, wipeE, tg_nm, tg_2, tg_3, asI, asB, cpr_T, cprT_map, cprT_filter, it_enc, len_enc, isi_list, ix_k0, ix_k1, ix_r0, ix_r1, ix_r2, fold_list, Bool.not_true, Bool.not_false, reduceIte, decide_true, decide_false, Bool.and_true, Bool.and_false, Bool.true_and, Bool.false_and, Bool.or_true, Bool.or_false, Bool.true_or, Bool.false_or, cond_bind, cond_omap, and_b, or_b, chn_b, cond_true, cond_false, thn_nx, thn_rt, res_rt, res_nx, cond_res, cond_arb, isi_ky, isi_row, isi_str, len_ky, len_row, lv_true, lv_list, lv_bool, lv_int, lv_none, lv_str, lv_imm, eq_int, ne_int, eq_str, ne_str, lt_int, le_int, gt_int, ge_int, in_str, nin_str, in_int, nin_int, in_strs, it_zip_enc, it_enum_enc, sl_enc, slP_int, slP_none, val_mkO, mkO_imm, mkD_imm, mkD_list, mkD_row, list_enc, sz0, sz1, sz2, sz3, sz4, sz5, sz8, sz16, fold_row, fold_ky, lvs, List.all_cons, List.all_nil, all_enc, any_benc, mkL_bool, mkL_str, mkL_int, mkL_map, enc_int, enc_str, enc_bool, gc _ _ _ b0, e15, bin_mod _ _ (show (0 : Int) < 16 by omega), hm, mkL_nil, e1, e5, e2, bin_mod _ _ (show (0 : Int) < 3 by omega), bin_add, bin_mod _ _ (show (0 : Int) < mo + 1 by omega), it_rng1 _ (v2 % (mo + 1)) (by omega) (by omega), h1, srt_row]
end T2.Q
end
section
set_option Elab.async false
set_option linter.all false
set_option autoImplicit false
set_option maxRecDepth 100000
namespace T2.Q
open PySem PySem.Spec L2 T2
open T2.Py (enc)
theorem r_law_row {ns : List Int} {e : Nat} (h20 : 60 ≤ e) (he : 2 * e + 100 ≤ 134217728) (h : ∀ z ∈ ns, Builtin.Int.intBits z ≤ e) : DrR ns f_law_row := fun l0 l1 l2 l3 l4 by_ many wide kind b0 m0 m1 w0 w1 k0 k1 => row_run (drw h20 he h) l0 l1 l2 l3 l4 by_ many wide kind b0 m0 m1 w0 w1 k0 k1
def DrH (ns : List Int) (fh : Fu) : Prop := ∀ (l0 l1 l2 : Bool) (by_ most : Int), 0 ≤ by_ → 0 ≤ most → most ≤ 10 → ∃ h : List Row, isHolding h = true ∧ fh [(l0, enc ns), (l1, .int by_), (l2, .int most)] = some (true, enc h)
theorem r_law_holding {ns : List Int} {e : Nat} (h20 : 60 ≤ e) (he : 2 * e + 100 ≤ 134217728) (h : ∀ z ∈ ns, Builtin.Int.intBits z ≤ e) : DrH ns f_law_holding := fun l0 l1 l2 by_ most b0 m0 m1 => hold_run (drw h20 he h) (r_law_row h20 he h) l0 l1 l2 by_ most b0 m0 m1
theorem r_law_copy (b : Bool) (h : List Row) : f_law_copy [(b, enc h)] = some (true, enc h) := by
  simp only [f_law_copy, b_law_copy, c_law_copy, run, exB, exS, ev, evs, evp, sets, enOf, vl, val_d, val_o, tr_b, tr_l, List.length_cons, List.length_nil, Nat.zero_add, Nat.reduceAdd, Nat.reduceSub, if_true, ite_true, List.map_cons, List.map_nil, List.map_id', Option.bind_some, Option.map_some, List.getElem?_cons_zero, List.getElem?_cons_succ, List.cons_append, List.nil_append, List.append_nil, List.replicate_succ, List.replicate_zero, List.set_cons_zero, List.set_cons_succ, wipeE, tg_nm, tg_2, tg_3, asI, asB, cpr_T, cprT_map, cprT_filter, it_enc, len_enc, isi_list, ix_k0, ix_k1, ix_r0, ix_r1, ix_r2, fold_list, Bool.not_true, Bool.not_false, reduceIte, decide_true, decide_false, Bool.and_true, Bool.and_false, Bool.true_and, Bool.false_and, Bool.or_true, Bool.or_false, Bool.true_or, Bool.false_or, cond_bind, cond_omap, and_b, or_b, chn_b, cond_true, cond_false, thn_nx, thn_rt, res_rt, res_nx, cond_res, cond_arb, isi_ky, isi_row, isi_str, len_ky, len_row, lv_true, lv_list, lv_bool, lv_int, lv_none, lv_str, lv_imm, eq_int, ne_int, eq_str, ne_str, lt_int, le_int, gt_int, ge_int, in_str, nin_str, in_int, nin_int, in_strs, it_zip_enc, it_enum_enc, sl_enc, slP_int, slP_none, val_mkO, mkO_imm, mkD_imm, mkD_list, mkD_row, list_enc, sz0, sz1, sz2, sz3, sz4, sz5, sz8, sz16, fold_row, fold_ky, lvs, List.all_cons, List.all_nil, all_enc, any_benc, mkL_bool, mkL_str, mkL_int, mkL_map, enc_int, enc_str, enc_bool]
  have : mkL (h.map fun r => (true, (enc r : PyData))) = .o true (h.map enc) := by
    unfold mkL lvs
    rw [List.map_map, List.all_map]
    congr 1
    rw [List.all_eq_true]
    exact fun _ _ => rfl
  rw [this]
  simp only [run, exB, exS, ev, evs, evp, sets, enOf, vl, val_d, val_o, tr_b, tr_l, List.length_cons, List.length_nil, Nat.zero_add, Nat.reduceAdd, Nat.reduceSub, if_true, ite_true, List.map_cons, List.map_nil, List.map_id', Option.bind_some, Option.map_some, List.getElem?_cons_zero, List.getElem?_cons_succ, List.cons_append, List.nil_append, List.append_nil, List.replicate_succ, List.replicate_zero, List.set_cons_zero, List.set_cons_succ, wipeE, tg_nm, tg_2, tg_3, asI, asB, cpr_T, cprT_map, cprT_filter, it_enc, len_enc, isi_list, ix_k0, ix_k1, ix_r0, ix_r1, ix_r2, fold_list, Bool.not_true, Bool.not_false, reduceIte, decide_true, decide_false, Bool.and_true, Bool.and_false, Bool.true_and, Bool.false_and, Bool.or_true, Bool.or_false, Bool.true_or, Bool.false_or, cond_bind, cond_omap, and_b, or_b, chn_b, cond_true, cond_false, thn_nx, thn_rt, res_rt, res_nx, cond_res, cond_arb, isi_ky, isi_row, isi_str, len_ky, len_row, lv_true, lv_list, lv_bool, lv_int, lv_none, lv_str, lv_imm, eq_int, ne_int, eq_str, ne_str, lt_int, le_int, gt_int, ge_int, in_str, nin_str, in_int, nin_int, in_strs, it_zip_enc, it_enum_enc, sl_enc, slP_int, slP_none, val_mkO, mkO_imm, mkD_imm, mkD_list, mkD_row, list_enc, sz0, sz1, sz2, sz3, sz4, sz5, sz8, sz16, fold_row, fold_ky, lvs, List.all_cons, List.all_nil, all_enc, any_benc, mkL_bool, mkL_str, mkL_int, mkL_map, enc_int, enc_str, enc_bool]
theorem r_law_keys (b : Bool) (h : List Row) : f_law_keys [(b, enc h)] = some (true, enc (keysL h)) := by
  simp only [f_law_keys, b_law_keys, c_law_keys, run, exB, exS, ev, evs, evp, sets, enOf, vl, val_d, val_o, tr_b, tr_l, List.length_cons, List.length_nil, Nat.zero_add, Nat.reduceAdd, Nat.reduceSub, if_true, ite_true, List.map_cons, List.map_nil, List.map_id', Option.bind_some, Option.map_some, List.getElem?_cons_zero, List.getElem?_cons_succ, List.cons_append, List.nil_append, List.append_nil, List.replicate_succ, List.replicate_zero, List.set_cons_zero, List.set_cons_succ, wipeE, tg_nm, tg_2, tg_3, asI, asB, cpr_T, cprT_map, cprT_filter, it_enc, len_enc, isi_list, ix_k0, ix_k1, ix_r0, ix_r1, ix_r2, fold_list, Bool.not_true, Bool.not_false, reduceIte, decide_true, decide_false, Bool.and_true, Bool.and_false, Bool.true_and, Bool.false_and, Bool.or_true, Bool.or_false, Bool.true_or, Bool.false_or, cond_bind, cond_omap, and_b, or_b, chn_b, cond_true, cond_false, thn_nx, thn_rt, res_rt, res_nx, cond_res, cond_arb, isi_ky, isi_row, isi_str, len_ky, len_row, lv_true, lv_list, lv_bool, lv_int, lv_none, lv_str, lv_imm, eq_int, ne_int, eq_str, ne_str, lt_int, le_int, gt_int, ge_int, in_str, nin_str, in_int, nin_int, in_strs, it_zip_enc, it_enum_enc, sl_enc, slP_int, slP_none, val_mkO, mkO_imm, mkD_imm, mkD_list, mkD_row, list_enc, sz0, sz1, sz2, sz3, sz4, sz5, sz8, sz16, fold_row, fold_ky, lvs, List.all_cons, List.all_nil, all_enc, any_benc, mkL_bool, mkL_str, mkL_int, mkL_map, enc_int, enc_str, enc_bool, keysL]
end T2.Q
end
section
set_option Elab.async false
set_option linter.all false
set_option autoImplicit false
set_option maxRecDepth 100000
namespace T2.Q
open PySem PySem.Spec L2 T2
open T2.Py (enc)
/-! ### what the laws lean on -/
theorem mkO_true (ds : List PyData) : mkO true ds = .o true ds := rfl
theorem it_list (b : Bool) (ds : List PyData) : itD .seq [(b, .list ds)] = some (b, ds) := rfl
theorem cat_any {α β : Type} [Py α] [Py β] (b c : Bool) (xs : List α) (ys : List β) (h : xs.length + ys.length ≤ sizeLine) : binD .add (b, enc xs) (c, enc ys) = some (mkO (b && c) (xs.map enc ++ ys.map enc)) := by
  show (if (xs.map enc).length + (ys.map enc).length ≤ sizeLine then some (mkO (b && c) (xs.map enc ++ ys.map enc)) else none) = _
  rw [List.length_map, List.length_map, if_pos h]
theorem cpr_tup (ds : List PyData) (h : ∀ d ∈ ds, isiD d .tuple = true) : cpr (fun d => some (some (true, .bool (isiD d .tuple)))) ds = some (ds.map fun _ => (true, .bool true)) := cpr_ds _ fun d hd => by rw [h d hd]
theorem all_tt (ds : List PyData) : (ds.map fun _ => true).all id = true := by
  rw [List.all_eq_true]
  intro x hx
  obtain ⟨_, _, rfl⟩ := List.mem_map.mp hx
  rfl
theorem mkL_tt (ds : List PyData) : mkL (ds.map fun _ => (true, .bool true)) = .o true ((ds.map fun _ => true).map enc) := mkL_bool ds (fun _ => true) fun _ => true
theorem bin_band (a b : Bool) (i j : Int) : binD .band (a, .int i) (b, .int j) = some (.d true (.int (Builtin.bitAnd i j))) := rfl
theorem dem_list {α : Type} [Py α] (b : Bool) (xs : List α) : dem (b, enc xs) = (false, enc xs) := rfl
/-- rows of one's own, spoilt -/
theorem spl_rows (C : Cf) (Γ : List En) (i j : Nat) (rs : List Row) (hi : Γ[i]? = some (.w (.tree (enc rs)))) (hij : i ≠ j) (hj : j < Γ.length) (hl : rs.length ≤ 1000) (hf : ∀ r ∈ rs, r.b.length ≤ 1000 ∧ r.c.length ≤ 1000) (k : Str × Int) (t : Str) :
    exS C (.spl i j [(some 1, (.lit (.str t))), (some 2, (.tup [(.lit (.str k.1)), (.lit (.int k.2))]))]) Γ = some (.nx ((Γ.set j .no).set i (.w (.ul rs.length)))) := by
  simp only [exS, hi]
  show (if i ≠ j ∧ j < Γ.length ∧ spAll C ((Γ.set i .no).set j .no) [(some 1, (.lit (.str t))), (some 2, (.tup [(.lit (.str k.1)), (.lit (.int k.2))]))] (rs.map enc) = true then some (Out.nx ((Γ.set j .no).set i (.w (.ul (rs.map enc).length)))) else none) = _
  have big : 100000 ≤ sizeLine := by decide
  suffices z : spAll C ((Γ.set i .no).set j .no) [(some 1, (.lit (.str t))), (some 2, (.tup [(.lit (.str k.1)), (.lit (.int k.2))]))] (rs.map enc) = true by rw [if_pos ⟨hij, hj, z⟩, List.length_map]
  cases rs with
  | nil => rfl
  | cons r0 rs =>
    rw [List.map_cons, spAll, ← List.map_cons, List.all_eq_true]
    intro a ha
    obtain ⟨r, hr, rfl⟩ := List.mem_map.mp ha
    have := hf r hr
    simp only [List.all_cons, List.all_nil, Bool.and_true, Bool.and_eq_true, List.length_cons, List.length_nil, List.length_map] at *
    refine ⟨?_, ?_⟩
    · simp only [spOne, Bool.and_eq_true]
      refine ⟨?_, by simp only [ev, vl, val_d, Option.bind_some, Option.isSome_some]⟩
      show (decide ((r.b.map (enc : Str → PyData)).length + _ < sizeLine) && (match r.b.map (enc : Str → PyData) with | [] => true | y :: _ => conf (enc r0) y)) = true
      rw [Bool.and_eq_true, decide_eq_true_eq, List.length_map]
      refine ⟨by omega, ?_⟩
      cases r.b <;> rfl
    · simp only [spOne, Bool.and_eq_true]
      refine ⟨?_, by simp only [ev, evs, vl, val_d, Option.bind_some, Option.map_some, Option.isSome_some, List.length_cons, List.length_nil, Nat.zero_add, Nat.reduceAdd, sz2, if_true]⟩
      show (decide ((r.c.map (enc : Ky → PyData)).length + _ < sizeLine) && (match r.c.map (enc : Ky → PyData) with | [] => true | y :: _ => conf (enc r0) y)) = true
      rw [Bool.and_eq_true, decide_eq_true_eq, List.length_map]
      refine ⟨by omega, ?_⟩
      cases r.c <;> rfl
theorem apu_ul (C : Cf) (Γ : List En) (i n : Nat) (e : CE) (a : Ar) (hi : Γ[i]? = some (.w (.ul n))) (he : vl (ev C e (Γ.set i .no)) = some a) (hn : n < sizeLine) : exS C (.apu i e) Γ = some (.nx (Γ.set i (.w (.ul (n + 1))))) := by
  simp only [exS, hi, wlen, Option.bind_some, he, if_pos hn]
theorem apu_tree {α : Type} [Py α] (C : Cf) (Γ : List En) (i : Nat) (xs : List α) (e : CE) (a : Ar) (hi : Γ[i]? = some (.w (.tree (enc xs)))) (he : vl (ev C e (Γ.set i .no)) = some a) (hn : xs.length < sizeLine) : exS C (.apu i e) Γ = some (.nx (Γ.set i (.w (.ul (xs.length + 1))))) := by
  have : wlen (.tree (enc xs)) = some xs.length := by
    show some (xs.map enc).length = _
    rw [List.length_map]
  simp only [exS, hi, this, Option.bind_some, he, if_pos hn]
end T2.Q
end
section
set_option Elab.async false
set_option linter.all false
set_option autoImplicit false
set_option maxRecDepth 100000
namespace T2.Q
open PySem PySem.Spec L2 T2
open T2.Py (enc)
/-! ### law k01 -/
def bI : List CS := [.par [(13, true, (.new 5 [(.var 10), (.var 11)])), (14, true, (.new 6 [(.var 10)]))],
    .set 15 (.lcf [((Str.ofString "_law_row_here"), 9)] .seq [(.var 2)] (.nm 9) (.cmp .isIn (.ix (.ix (.var 9) (.lit (.int 0))) (.lit (.int 0))) (.var 4)) (.var 9)),
    .ifs (.or (.not (.pk 13 (.isi (.var 13) .list))) (.one (.pk 13 (.cmp .ne (.var 13) (.var 15))))) [.ret (.lit (.bool false))] [],
    .ifs (.or (.not (.pk 14 (.isi (.var 14) .list))) (.one (.pk 14 (.cmp .ne (.var 14) (.sset (.var 8)))))) [.ret (.lit (.bool false))] [],
    .ifs (.not (.pk 13 (.pk 14 (.blt .all [(.lc [((Str.ofString "_law_row_here"), 9)] .seq [(.bin .add (.var 13) (.var 14))] (.nm 9) (.isi (.var 9) .tuple))])))) [.ret (.lit (.bool false))] [],
    .spl 13 9 [(some 1, (.lit (.str (Str.ofString "")))), (some 2, (.tup [(.lit (.str (Str.ofString "a"))), (.lit (.int 0))]))],
    .apu 13 (.tup []),
    .apu 14 (.tup [(.lit (.str (Str.ofString "a"))), (.lit (.int 0))]),
    .ifs (.or (.cmp .ne (.var 10) (.var 2)) (.one (.cmp .ne (.var 11) (.var 4)))) [.ret (.lit (.bool false))] []]
def bI1 : List CS := [.par [(13, true, (.new 5 [(.var 10), (.var 11)])), (14, true, (.new 6 [(.var 10)]))],
    .set 15 (.lcf [((Str.ofString "_law_row_here"), 9)] .seq [(.var 2)] (.nm 9) (.cmp .isIn (.ix (.ix (.var 9) (.lit (.int 0))) (.lit (.int 0))) (.var 4)) (.var 9)),
    .ifs (.or (.not (.pk 13 (.isi (.var 13) .list))) (.one (.pk 13 (.cmp .ne (.var 13) (.var 15))))) [.ret (.lit (.bool false))] [],
    .ifs (.or (.not (.pk 14 (.isi (.var 14) .list))) (.one (.pk 14 (.cmp .ne (.var 14) (.sset (.var 8)))))) [.ret (.lit (.bool false))] [],
    .ifs (.not (.pk 13 (.pk 14 (.blt .all [(.lc [((Str.ofString "_law_row_here"), 9)] .seq [(.bin .add (.var 13) (.var 14))] (.nm 9) (.isi (.var 9) .tuple))])))) [.ret (.lit (.bool false))] []]
theorem rows_lv (l : Bool) (h : List Row) : ∃ c, mkL (h.map fun r => (l, (enc r : PyData))) = .o c (h.map enc) := by
  refine ⟨lvs (h.map fun r => (l, (enc r : PyData))), ?_⟩
  unfold mkL
  rw [List.map_map]
  rfl
theorem k01_ask (C : Cf) (nm5 nm6 : Str) (fo fl : Fu) (c5 : C.fns[5]? = some (nm5, fo)) (c6 : C.fns[6]? = some (nm6, fl)) (h : List Row) (os : List Str) (ks : List Ky) (lk : ks.length ≤ 40) (lh : h.length ≤ 10)
    (ho : fo [(false, enc h), (false, enc os)] = some (true, enc (h.filter fun r => isIn r.a.1 os))) (hl : fl [(false, enc h)] = some (true, enc (sset ks))) (l2 l4 l8 l10 l11 : Bool) (v0 v1 v3 v5 v6 v7 v9 v12 v13 v14 v15 v16 v17 : En) :
    ∃ w15, exB C bI1 [v0, v1, .d l2 (enc h), v3, .d l4 (enc os), v5, v6, v7, .d l8 (enc ks), v9, .d l10 (enc h), .d l11 (enc os), v12, v13, v14, v15, v16, v17] = some (.nx [v0, v1, .d l2 (enc h), v3, .d l4 (enc os), v5, v6, v7, .d l8 (enc ks), v9, .d l10 (enc h), .d l11 (enc os), v12, .w (.tree (enc (h.filter fun r => isIn r.a.1 os))), .w (.tree (enc (sset ks))), w15, v16, v17]) := by
  obtain ⟨c, hc⟩ := rows_lv l2 (h.filter fun r => isIn r.a.1 os)
  refine ⟨.d c (enc (h.filter fun r => isIn r.a.1 os)), ?_⟩
  have s1 := sset_len ks
  have s2 := List.length_filter_le (fun r : Row => isIn r.a.1 os) h
  have big : 100 ≤ sizeLine := by decide
  simp only [bI1, run, exB, exS, ev, evs, evp, sets, enOf, vl, val_d, val_o, tr_b, tr_l, List.length_cons, List.length_nil, Nat.zero_add, Nat.reduceAdd, Nat.reduceSub, if_true, ite_true, List.map_cons, List.map_nil, List.map_id', Option.bind_some, Option.map_some, List.getElem?_cons_zero, List.getElem?_cons_succ, List.cons_append, List.nil_append, List.append_nil, List.replicate_succ, List.replicate_zero, List.set_cons_zero, List.set_cons_succ, wipeE, tg_nm, tg_2, tg_3, asI, asB, cpr_T, cprT_map, cprT_filter, it_enc, len_enc, isi_list, ix_k0, ix_k1, ix_r0, ix_r1, ix_r2, fold_list, Bool.not_true, Bool.not_false, reduceIte, decide_true, decide_false, Bool.and_true, Bool.and_false, Bool.true_and, Bool.false_and, Bool.or_true, Bool.or_false, Bool.true_or, Bool.false_or, cond_bind, cond_omap, and_b, or_b, chn_b, cond_true, cond_false, thn_nx, thn_rt, res_rt, res_nx, cond_res, cond_arb, isi_ky, isi_row, isi_str, len_ky, len_row, lv_true, lv_list, lv_bool, lv_int, lv_none, lv_str, lv_imm, eq_int, ne_int, eq_str, ne_str, lt_int, le_int, gt_int, ge_int, in_str, nin_str, in_int, nin_int, in_strs, it_zip_enc, it_enum_enc, sl_enc, slP_int, slP_none, val_mkO, mkO_imm, mkD_imm, mkD_list, mkD_row, list_enc, sz0, sz1, sz2, sz3, sz4, sz5, sz8, sz16, fold_row, fold_ky, lvs, List.all_cons, List.all_nil, all_enc, any_benc, mkL_bool, mkL_str, mkL_int, mkL_map, enc_int, enc_str, enc_bool, c5, c6, dem_list, ho, hl, hc, imm_b, ne_enc _ _ (show Py.dp (List Row) ≤ 60 by decide), ne_enc _ _ (show Py.dp (List Ky) ≤ 60 by decide), sset_ky ks (by omega), cat_any _ _ _ _ (show (h.filter fun r => isIn r.a.1 os).length + (sset ks).length ≤ sizeLine by omega), mkO_true, it_list]
  rw [cpr_tup]
  · simp only [run, exB, exS, ev, evs, evp, sets, enOf, vl, val_d, val_o, tr_b, tr_l, List.length_cons, List.length_nil, Nat.zero_add, Nat.reduceAdd, Nat.reduceSub, if_true, ite_true, List.map_cons, List.map_nil, List.map_id', Option.bind_some, Option.map_some, List.getElem?_cons_zero, List.getElem?_cons_succ, List.cons_append, List.nil_append, List.append_nil, List.replicate_succ, List.replicate_zero, List.set_cons_zero, List.set_cons_succ, wipeE, tg_nm, tg_2, tg_3, asI, asB, cpr_T, cprT_map, cprT_filter, it_enc, len_enc, isi_list, ix_k0, ix_k1, ix_r0, ix_r1, ix_r2, fold_list, Bool.not_true, Bool.not_false, reduceIte, decide_true, decide_false, Bool.and_true, Bool.and_false, Bool.true_and, Bool.false_and, Bool.or_true, Bool.or_false, Bool.true_or, Bool.false_or, cond_bind, cond_omap, and_b, or_b, chn_b, cond_true, cond_false, thn_nx, thn_rt, res_rt, res_nx, cond_res, cond_arb, isi_ky, isi_row, isi_str, len_ky, len_row, lv_true, lv_list, lv_bool, lv_int, lv_none, lv_str, lv_imm, eq_int, ne_int, eq_str, ne_str, lt_int, le_int, gt_int, ge_int, in_str, nin_str, in_int, nin_int, in_strs, it_zip_enc, it_enum_enc, sl_enc, slP_int, slP_none, val_mkO, mkO_imm, mkD_imm, mkD_list, mkD_row, list_enc, sz0, sz1, sz2, sz3, sz4, sz5, sz8, sz16, fold_row, fold_ky, lvs, List.all_cons, List.all_nil, all_enc, any_benc, mkL_bool, mkL_str, mkL_int, mkL_map, enc_int, enc_str, enc_bool, mkL_tt, all_tt, imm_b]
  · intro d hd
    rcases List.mem_append.mp hd with z | z
    · obtain ⟨x, _, rfl⟩ := List.mem_map.mp z; rfl
    · obtain ⟨x, _, rfl⟩ := List.mem_map.mp z; rfl
end T2.Q
end
section
set_option Elab.async false
set_option linter.all false
set_option autoImplicit false
set_option maxRecDepth 100000
namespace T2.Q
open PySem PySem.Spec L2 T2
open T2.Py (enc)
theorem thn_some {C : Cf} {s : CS} {Γ Γ1 : List En} {f : List En → Option Out} (h : ((exS C s Γ).bind fun o => Out.thn o f) = some (.nx Γ1)) : ∃ Γ2, exS C s Γ = some (.nx Γ2) ∧ f Γ2 = some (.nx Γ1) := by
  cases q : exS C s Γ with
  | none => rw [q] at h; cases h
  | some o =>
    rw [q] at h
    cases o with
    | nx Γ2 => exact ⟨Γ2, rfl, h⟩
    | rt b d => cases h
    | bk Γ2 => cases h
    | ct Γ2 => cases h
theorem exB_app {C : Cf} {b : List CS} : ∀ {a : List CS} {Γ Γ1 : List En}, exB C a Γ = some (.nx Γ1) → exB C (a ++ b) Γ = exB C b Γ1
  | [], Γ, Γ1, h => by
    simp only [exB, Option.some.injEq, Out.nx.injEq] at h
    rw [h, List.nil_append]
  | s :: r, Γ, Γ1, h => by
    have key : ∀ Γ2, exB C r Γ2 = some (.nx Γ1) → exB C (r ++ b) Γ2 = exB C b Γ1 := fun Γ2 h2 => exB_app h2
    rw [List.cons_append]
    cases s with
    | clo i =>
      simp only [exB] at h ⊢
      cases q : Γ[i]? with
      | none => rw [q] at h; cases h
      | some en =>
        rw [q] at h
        cases en with
        | no => cases h
        | d x y => cases h
        | o x y => exact key _ h
        | w k => cases k with
          | ul n => cases h
          | tree d => exact key _ h
    | _ =>
      simp only [exB] at h ⊢
      obtain ⟨Γ2, h1, h2⟩ := thn_some h
      rw [h1, Option.bind_some, thn_nx]
      exact key _ h2
def bI2 : List CS := [.spl 13 9 [(some 1, (.lit (.str (Str.ofString "")))), (some 2, (.tup [(.lit (.str (Str.ofString "a"))), (.lit (.int 0))]))],
    .apu 13 (.tup []),
    .apu 14 (.tup [(.lit (.str (Str.ofString "a"))), (.lit (.int 0))]),
    .ifs (.or (.cmp .ne (.var 10) (.var 2)) (.one (.cmp .ne (.var 11) (.var 4)))) [.ret (.lit (.bool false))] []]
theorem bI_eq : bI = bI1 ++ bI2 := rfl
theorem k01_rest (C : Cf) (h rs : List Row) (os : List Str) (ks : List Ky) (lk : ks.length ≤ 40) (lr : rs.length ≤ 10) (hf : ∀ r ∈ rs, r.b.length ≤ 1000 ∧ r.c.length ≤ 1000) (l2 l4 l10 l11 : Bool) (v0 v1 v3 v5 v6 v7 v8 v9 v12 v15 v16 v17 : En) :
    exB C bI2 [v0, v1, .d l2 (enc h), v3, .d l4 (enc os), v5, v6, v7, v8, v9, .d l10 (enc h), .d l11 (enc os), v12, .w (.tree (enc rs)), .w (.tree (enc ks)), v15, v16, v17] = some (.nx [v0, v1, .d l2 (enc h), v3, .d l4 (enc os), v5, v6, v7, v8, .no, .d l10 (enc h), .d l11 (enc os), v12, .w (.ul (rs.length + 1)), .w (.ul (ks.length + 1)), v15, v16, v17]) := by
  have big : 100000 ≤ sizeLine := by decide
  have e1 := spl_rows C [v0, v1, .d l2 (enc h), v3, .d l4 (enc os), v5, v6, v7, v8, v9, .d l10 (enc h), .d l11 (enc os), v12, .w (.tree (enc rs)), .w (.tree (enc ks)), v15, v16, v17] 13 9 rs rfl (by decide) (by show 9 < 18; decide) (by omega) hf (Str.ofString "a", 0) (Str.ofString "")
  simp only [List.set_cons_succ, List.set_cons_zero] at e1
  have e2 := apu_ul C [v0, v1, .d l2 (enc h), v3, .d l4 (enc os), v5, v6, v7, v8, .no, .d l10 (enc h), .d l11 (enc os), v12, .w (.ul rs.length), .w (.tree (enc ks)), v15, v16, v17] 13 rs.length (.tup []) _ rfl (by simp only [ev, evs, Option.bind_some, vl, List.length_nil, sz0, if_true, val_d]; rfl) (by omega)
  have e3 := apu_tree C [v0, v1, .d l2 (enc h), v3, .d l4 (enc os), v5, v6, v7, v8, .no, .d l10 (enc h), .d l11 (enc os), v12, .w (.ul (rs.length + 1)), .w (.tree (enc ks)), v15, v16, v17] 14 ks (.tup [(.lit (.str (Str.ofString "a"))), (.lit (.int 0))]) _ rfl (by simp only [ev, evs, Option.bind_some, Option.map_some, vl, List.length_cons, List.length_nil, Nat.zero_add, Nat.reduceAdd, sz2, if_true, val_d]; rfl) (by omega)
  simp only [List.set_cons_succ, List.set_cons_zero] at e2 e3
  simp only [bI2, exB, e1, e2, e3, Option.bind_some, thn_nx]
  simp only [run, exB, exS, ev, evs, evp, sets, enOf, vl, val_d, val_o, tr_b, tr_l, List.length_cons, List.length_nil, Nat.zero_add, Nat.reduceAdd, Nat.reduceSub, if_true, ite_true, List.map_cons, List.map_nil, List.map_id', Option.bind_some, Option.map_some, List.getElem?_cons_zero, List.getElem?_cons_succ, List.cons_append, List.nil_append, List.append_nil, List.replicate_succ, List.replicate_zero, List.set_cons_zero, List.set_cons_succ, wipeE, tg_nm, tg_2, tg_3, asI, asB, cpr_T, cprT_map, cprT_filter, it_enc, len_enc, isi_list, ix_k0, ix_k1, ix_r0, ix_r1, ix_r2, fold_list, Bool.not_true, Bool.not_false, reduceIte, decide_true, decide_false, Bool.and_true, Bool.and_false, Bool.true_and, Bool.false_and, Bool.or_true, Bool.or_false, Bool.true_or, Bool.false_or, cond_bind, cond_omap, and_b, or_b, chn_b, cond_true, cond_false, thn_nx, thn_rt, res_rt, res_nx, cond_res, cond_arb, isi_ky, isi_row, isi_str, len_ky, len_row, lv_true, lv_list, lv_bool, lv_int, lv_none, lv_str, lv_imm, eq_int, ne_int, eq_str, ne_str, lt_int, le_int, gt_int, ge_int, in_str, nin_str, in_int, nin_int, in_strs, it_zip_enc, it_enum_enc, sl_enc, slP_int, slP_none, val_mkO, mkO_imm, mkD_imm, mkD_list, mkD_row, list_enc, sz0, sz1, sz2, sz3, sz4, sz5, sz8, sz16, fold_row, fold_ky, lvs, List.all_cons, List.all_nil, all_enc, any_benc, mkL_bool, mkL_str, mkL_int, mkL_map, enc_int, enc_str, enc_bool, ne_enc _ _ (show Py.dp (List Row) ≤ 60 by decide), ne_enc _ _ (show Py.dp (List Str) ≤ 60 by decide)]
end T2.Q
end
section
set_option Elab.async false
set_option linter.all false
set_option autoImplicit false
set_option maxRecDepth 100000
namespace T2.Q
open PySem PySem.Spec L2 T2
open T2.Py (enc)
theorem enumT_snd {α : Type} [Py α] (xs : List α) : (enumT xs).map (·.2) = xs := by
  unfold enumT
  refine List.ext_getElem? fun i => ?_
  rw [List.getElem?_map, List.getElem?_mapIdx]
  cases xs[i]? <;> rfl
theorem enumT_fst {α : Type} [Py α] {xs : List α} {p : Int × α} (h : p ∈ enumT xs) : 0 ≤ p.1 := by
  unfold enumT at h
  obtain ⟨i, hi⟩ := List.mem_iff_getElem?.mp h
  rw [List.getElem?_mapIdx] at hi
  cases q : xs[i]? with
  | none => rw [q] at hi; cases hi
  | some x =>
    rw [q] at hi
    cases hi
    exact Int.natCast_nonneg i
theorem cat_s (b c : Bool) (xs : List Str) (s : Str) (h : xs.length + 1 ≤ sizeLine) : binD .add (b, enc xs) (c, .list [.str s]) = some (.o true ((xs ++ [s]).map enc)) := by
  have := cat_enc b c xs [s] h
  rw [mkO_imm] at this
  exact this
theorem mkL_s (s : Str) : mkL [(true, .str s)] = .o true [.str s] := rfl
/-- what the law's loop leans on -/
structure K1 (e : Nat) (ns : List Int) (fh fv fc fk fy fp fo fl : Fu) : Prop where
  h : DrH ns fh
  D : Drw e ns fv fc fk
  y : ∀ b h, fy [(b, enc h)] = some (true, enc (keysL h))
  p : ∀ b (h : List Row), fp [(b, enc h)] = some (true, enc h)
  o : ∀ b c (h : List Row) (os : List Str), Hold h → (∀ x ∈ os, x.length ≤ sizeLine) → os.all isOffice = true → rising os = true → fo [(b, enc h), (c, enc os)] = some (true, enc (h.filter fun r => isIn r.a.1 os))
  l : ∀ b h, Hold h → fl [(b, enc h)] = some (true, enc (sset (lostL h)))
def bO : List CS := [.ifs (.cmp .eq (.bin .band (.bin .shr (.var 3) (.var 5)) (.lit (.int 1))) (.lit (.int 1))) [.app 4 (.var 6)] []]
def bG : List CS := [.set 8 (.bin .add (.var 8) (.lcf [((Str.ofString "_law_key_here"), 17)] .seq [(.ix (.var 9) (.lit (.int 2)))] (.nm 17) (.cmp .notIn (.var 17) (.var 7)) (.var 17)))]
def bL1 : List CS := [.set 2 (.cal 0 [(.var 0), (.var 1), (.lit (.int 8))]),
    .set 3 (.cal 1 [(.cal 2 [(.var 0), (.var 1)]), (.lit (.int 11))]),
    .own 4 (.lst []),
    .fo .enu [(.sset (.bin .add (.lc [((Str.ofString "_law_row_here"), 9)] .seq [(.var 2)] (.nm 9) (.ix (.ix (.var 9) (.lit (.int 0))) (.lit (.int 0)))) (.lst [(.lit (.str (Str.ofString "b")))])))] (.tp [5, 6]) bO]
def bL2 : List CS := [.par [(7, false, (.cal 3 [(.var 2)])), (8, false, (.lst []))],
    .fo .seq [(.var 2)] (.nm 9) bG,
    .clo 4,
    .par [(10, false, (.cal 4 [(.var 2)])), (11, false, (.blt .list [(.var 4)]))],
    .fo .rng [(.lit (.int 2))] (.nm 12) bI]
def bL : List CS := bL1 ++ bL2
theorem b_office : isOffice (Str.ofString "b") = true := by decide +kernel
theorem row_office {h : List Row} (H : isHolding h = true) {r : Row} (hr : r ∈ h) : isOffice r.a.1 = true := by
  have := isHolding_row H hr
  simp only [isRow, isKey, Bool.and_eq_true] at this
  exact this.1.1
section
variable {e : Nat} {ns : List Int} {fh fv fc fk fy fp fo fl : Fu} {n0 n1 n2 n3 n4 n5 n6 : Str}
theorem k01_l1 (K : K1 e ns fh fv fc fk fy fp fo fl) (l0 : Bool) (by_ : Int) (b0 : 0 ≤ by_) (v2 v3 v4 v5 v6 v7 v8 v9 v10 v11 v12 v13 v14 v15 v16 v17 : En) :
    ∃ (h : List Row) (os : List Str) (w3 w5 w6 : En), isHolding h = true ∧ os.all isOffice = true ∧ rising os = true ∧ os.length ≤ 20 ∧ exB ⟨[], [(n0, fh), (n1, fv), (n2, fc), (n3, fy), (n4, fp), (n5, fo), (n6, fl)]⟩ bL1 [.d l0 (enc ns), .d true (.int by_), v2, v3, v4, v5, v6, v7, v8, v9, v10, v11, v12, v13, v14, v15, v16, v17] = some (.nx [.d l0 (enc ns), .d true (.int by_), .d true (enc h), w3, .o true (os.map enc), w5, w6, v7, v8, v9, v10, v11, v12, v13, v14, v15, v16, v17]) := by
  obtain ⟨h, H, eh⟩ := K.h l0 true true by_ 8 b0 (by omega) (by omega)
  obtain ⟨g, gb, gc⟩ := K.D.c
  obtain ⟨v, ev_, p0, _⟩ := K.D.v true true (g by_) 11 (gb _) (by omega) (by omega)
  have lh := isHolding_len H
  have big : 100 ≤ sizeLine := by decide
  have sl := sset_len (h.map (fun r => r.a.1) ++ [Str.ofString "b"])
  rw [List.length_append, List.length_map, List.length_cons, List.length_nil] at sl
  have el : (enumT (sset (h.map (fun r => r.a.1) ++ [Str.ofString "b"]))).length ≤ 11 := by
    have := congrArg List.length (enumT_snd (sset (h.map (fun r => r.a.1) ++ [Str.ofString "b"])))
    rw [List.length_map] at this
    omega
  obtain ⟨Γ1, h1, os, v5', v6', hs, rfl⟩ := lop_all (e := enc) (f := fun Γ d => (tgt (.tp [5, 6]) Γ true d).bind fun Γ1 => exB ⟨[], [(n0, fh), (n1, fv), (n2, fc), (n3, fy), (n4, fp), (n5, fo), (n6, fl)]⟩ bO Γ1) (fun done Γ => ∃ (os : List Str) (v5 v6 : En), os.Sublist (done.map (·.2)) ∧ Γ = [.d l0 (enc ns), .d true (.int by_), .d true (enc h), .d true (.int v), .o true (os.map enc), v5, v6, v7, v8, v9, v10, v11, v12, v13, v14, v15, v16, v17]) (enumT (sset (h.map (fun r => r.a.1) ++ [Str.ofString "b"]))) [.d l0 (enc ns), .d true (.int by_), .d true (enc h), .d true (.int v), .o true [], v5, v6, v7, v8, v9, v10, v11, v12, v13, v14, v15, v16, v17] ⟨[], v5, v6, by simp, rfl⟩ (by
    rintro d x r Γ hd ⟨os, v5, v6, hs, rfl⟩
    have hx := enumT_fst (show x ∈ enumT (sset (h.map (fun r => r.a.1) ++ [Str.ofString "b"])) by rw [hd]; simp)
    have lo := hs.length_le
    rw [hd] at el
    simp only [List.length_map, List.length_append, List.length_cons] at lo el
    have zl : (os.map (enc : Str → PyData)).length < sizeLine := by rw [List.length_map]; omega
    simp only [bO, run, exB, exS, ev, evs, evp, sets, enOf, vl, val_d, val_o, tr_b, tr_l, List.length_cons, List.length_nil, Nat.zero_add, Nat.reduceAdd, Nat.reduceSub, if_true, ite_true, List.map_cons, List.map_nil, List.map_id', Option.bind_some, Option.map_some, List.getElem?_cons_zero, List.getElem?_cons_succ, List.cons_append, List.nil_append, List.append_nil, List.replicate_succ, List.replicate_zero, List.set_cons_zero, List.set_cons_succ, wipeE, tg_nm, tg_2, tg_3, asI, asB, cpr_T, cprT_map, cprT_filter, it_enc, len_enc, isi_list, ix_k0, ix_k1, ix_r0, ix_r1, ix_r2, fold_list, Bool.not_true, Bool.not_false, reduceIte, decide_true, decide_false, Bool.and_true, Bool.and_false, Bool.true_and, Bool.false_and, Bool.or_true, Bool.or_false, Bool.true_or, Bool.false_or, cond_bind, cond_omap, and_b, or_b, chn_b, cond_true, cond_false, thn_nx, thn_rt, res_rt, res_nx, cond_res, cond_arb, isi_ky, isi_row, isi_str, len_ky, len_row, lv_true, lv_list, lv_bool, lv_int, lv_none, lv_str, lv_imm, eq_int, ne_int, eq_str, ne_str, lt_int, le_int, gt_int, ge_int, in_str, nin_str, in_int, nin_int, in_strs, it_zip_enc, it_enum_enc, sl_enc, slP_int, slP_none, val_mkO, mkO_imm, mkD_imm, mkD_list, mkD_row, list_enc, sz0, sz1, sz2, sz3, sz4, sz5, sz8, sz16, fold_row, fold_ky, lvs, List.all_cons, List.all_nil, all_enc, any_benc, mkL_bool, mkL_str, mkL_int, mkL_map, enc_int, enc_str, enc_bool, bin_shr _ _ hx, bin_band]
    cases q : decide (Builtin.bitAnd (v / 2 ^ x.1.toNat) 1 = 1)
    · refine ⟨_, by simp only [run, exB, exS, ev, evs, evp, sets, enOf, vl, val_d, val_o, tr_b, tr_l, List.length_cons, List.length_nil, Nat.zero_add, Nat.reduceAdd, Nat.reduceSub, if_true, ite_true, List.map_cons, List.map_nil, List.map_id', Option.bind_some, Option.map_some, List.getElem?_cons_zero, List.getElem?_cons_succ, List.cons_append, List.nil_append, List.append_nil, List.replicate_succ, List.replicate_zero, List.set_cons_zero, List.set_cons_succ, wipeE, tg_nm, tg_2, tg_3, asI, asB, cpr_T, cprT_map, cprT_filter, it_enc, len_enc, isi_list, ix_k0, ix_k1, ix_r0, ix_r1, ix_r2, fold_list, Bool.not_true, Bool.not_false, reduceIte, decide_true, decide_false, Bool.and_true, Bool.and_false, Bool.true_and, Bool.false_and, Bool.or_true, Bool.or_false, Bool.true_or, Bool.false_or, cond_bind, cond_omap, and_b, or_b, chn_b, cond_true, cond_false, thn_nx, thn_rt, res_rt, res_nx, cond_res, cond_arb, isi_ky, isi_row, isi_str, len_ky, len_row, lv_true, lv_list, lv_bool, lv_int, lv_none, lv_str, lv_imm, eq_int, ne_int, eq_str, ne_str, lt_int, le_int, gt_int, ge_int, in_str, nin_str, in_int, nin_int, in_strs, it_zip_enc, it_enum_enc, sl_enc, slP_int, slP_none, val_mkO, mkO_imm, mkD_imm, mkD_list, mkD_row, list_enc, sz0, sz1, sz2, sz3, sz4, sz5, sz8, sz16, fold_row, fold_ky, lvs, List.all_cons, List.all_nil, all_enc, any_benc, mkL_bool, mkL_str, mkL_int, mkL_map, enc_int, enc_str, enc_bool], os, .d true (.int x.1), .d true (.str x.2), ?_, rfl⟩
      rw [List.map_append]
      exact hs.trans (List.sublist_append_left _ _)
    · refine ⟨_, by simp only [run, exB, exS, ev, evs, evp, sets, enOf, vl, val_d, val_o, tr_b, tr_l, List.length_cons, List.length_nil, Nat.zero_add, Nat.reduceAdd, Nat.reduceSub, if_true, ite_true, List.map_cons, List.map_nil, List.map_id', Option.bind_some, Option.map_some, List.getElem?_cons_zero, List.getElem?_cons_succ, List.cons_append, List.nil_append, List.append_nil, List.replicate_succ, List.replicate_zero, List.set_cons_zero, List.set_cons_succ, wipeE, tg_nm, tg_2, tg_3, asI, asB, cpr_T, cprT_map, cprT_filter, it_enc, len_enc, isi_list, ix_k0, ix_k1, ix_r0, ix_r1, ix_r2, fold_list, Bool.not_true, Bool.not_false, reduceIte, decide_true, decide_false, Bool.and_true, Bool.and_false, Bool.true_and, Bool.false_and, Bool.or_true, Bool.or_false, Bool.true_or, Bool.false_or, cond_bind, cond_omap, and_b, or_b, chn_b, cond_true, cond_false, thn_nx, thn_rt, res_rt, res_nx, cond_res, cond_arb, isi_ky, isi_row, isi_str, len_ky, len_row, lv_true, lv_list, lv_bool, lv_int, lv_none, lv_str, lv_imm, eq_int, ne_int, eq_str, ne_str, lt_int, le_int, gt_int, ge_int, in_str, nin_str, in_int, nin_int, in_strs, it_zip_enc, it_enum_enc, sl_enc, slP_int, slP_none, val_mkO, mkO_imm, mkD_imm, mkD_list, mkD_row, list_enc, sz0, sz1, sz2, sz3, sz4, sz5, sz8, sz16, fold_row, fold_ky, lvs, List.all_cons, List.all_nil, all_enc, any_benc, mkL_bool, mkL_str, mkL_int, mkL_map, enc_int, enc_str, enc_bool, gro, if_pos zl]; rfl, os ++ [x.2], .d true (.int x.1), .d true (.str x.2), ?_, ?_⟩
      · rw [List.map_append]
        exact hs.append (List.Sublist.refl _)
      · rw [List.map_append]; rfl)
  rw [enumT_snd] at hs
  refine ⟨h, os, .d true (.int v), v5', v6', H, ?_, ?_, ?_, ?_⟩
  · rw [List.all_eq_true]
    intro x hx
    rcases List.mem_append.mp (mem_sset.mp (hs.subset hx)) with z | z
    · obtain ⟨r, hr, rfl⟩ := List.mem_map.mp z
      exact row_office H hr
    · rw [List.mem_singleton.mp z]; exact b_office
  · exact rising_of ((of_rising (sset_rising _)).sublist hs)
  · have := hs.length_le; omega
  · have q := sset_str (h.map (fun r => r.a.1) ++ [Str.ofString "b"]) (by simp; omega)
    simp only [bL1, run, exB, exS, ev, evs, evp, sets, enOf, vl, val_d, val_o, tr_b, tr_l, List.length_cons, List.length_nil, Nat.zero_add, Nat.reduceAdd, Nat.reduceSub, if_true, ite_true, List.map_cons, List.map_nil, List.map_id', Option.bind_some, Option.map_some, List.getElem?_cons_zero, List.getElem?_cons_succ, List.cons_append, List.nil_append, List.append_nil, List.replicate_succ, List.replicate_zero, List.set_cons_zero, List.set_cons_succ, wipeE, tg_nm, tg_2, tg_3, asI, asB, cpr_T, cprT_map, cprT_filter, it_enc, len_enc, isi_list, ix_k0, ix_k1, ix_r0, ix_r1, ix_r2, fold_list, Bool.not_true, Bool.not_false, reduceIte, decide_true, decide_false, Bool.and_true, Bool.and_false, Bool.true_and, Bool.false_and, Bool.or_true, Bool.or_false, Bool.true_or, Bool.false_or, cond_bind, cond_omap, and_b, or_b, chn_b, cond_true, cond_false, thn_nx, thn_rt, res_rt, res_nx, cond_res, cond_arb, isi_ky, isi_row, isi_str, len_ky, len_row, lv_true, lv_list, lv_bool, lv_int, lv_none, lv_str, lv_imm, eq_int, ne_int, eq_str, ne_str, lt_int, le_int, gt_int, ge_int, in_str, nin_str, in_int, nin_int, in_strs, it_zip_enc, it_enum_enc, sl_enc, slP_int, slP_none, val_mkO, mkO_imm, mkD_imm, mkD_list, mkD_row, list_enc, sz0, sz1, sz2, sz3, sz4, sz5, sz8, sz16, fold_row, fold_ky, lvs, List.all_cons, List.all_nil, all_enc, any_benc, mkL_bool, mkL_str, mkL_int, mkL_map, enc_int, enc_str, enc_bool, eh, gc _ _ _ b0, ev_, mkL_nil, mkL_s, cat_s _ _ (h.map fun r => r.a.1) _ (show (h.map fun r => r.a.1).length + 1 ≤ sizeLine by rw [List.length_map]; omega), q, h1]
end
end T2.Q
end
section
set_option Elab.async false
set_option linter.all false
set_option autoImplicit false
set_option maxRecDepth 100000
namespace T2.Q
open PySem PySem.Spec L2 T2
open T2.Py (enc)
theorem isRow_flds {r : Row} (h : isRow r = true) : r.b.length ≤ 3 := by
  simp only [isRow, Bool.and_eq_true, decide_eq_true_eq] at h
  omega
section
variable {e : Nat} {ns : List Int} {fh fv fc fk fy fp fo fl : Fu} {n0 n1 n2 n3 n4 n5 n6 : Str}
theorem k01_in (K : K1 e ns fh fv fc fk fy fp fo fl) (h : List Row) (H : isHolding h = true) (os : List Str) (o1 : os.all isOffice = true) (o2 : rising os = true) (v0 v1 v3 v5 v6 v7 v9 v12 v13 v14 v15 v16 v17 : En) :
    ∃ w13 w14 w15, exB ⟨[], [(n0, fh), (n1, fv), (n2, fc), (n3, fy), (n4, fp), (n5, fo), (n6, fl)]⟩ bI [v0, v1, .d true (enc h), v3, .d true (enc os), v5, v6, v7, .d true (enc (lostL h)), v9, .d true (enc h), .d true (enc os), v12, v13, v14, v15, v16, v17] = some (.nx [v0, v1, .d true (enc h), v3, .d true (enc os), v5, v6, v7, .d true (enc (lostL h)), .no, .d true (enc h), .d true (enc os), v12, w13, w14, w15, v16, v17]) := by
  have lh := isHolding_len H
  have l1 := lost_len H h fun y hy => hy
  have ll : (lostL h).length ≤ 40 := by unfold lostL; omega
  have fos : ∀ x ∈ os, x.length ≤ sizeLine := fun x hx => fit_word (l := 1) (m := 8) (List.all_eq_true.mp o1 x hx) (by omega)
  obtain ⟨w15, e1⟩ := k01_ask ⟨[], [(n0, fh), (n1, fv), (n2, fc), (n3, fy), (n4, fp), (n5, fo), (n6, fl)]⟩ n5 n6 fo fl rfl rfl h os (lostL h) ll lh (K.o _ _ h os (hold_of H) fos o1 o2) (K.l _ h (hold_of H)) true true true true true v0 v1 v3 v5 v6 v7 v9 v12 v13 v14 v15 v16 v17
  have s1 := sset_len (lostL h)
  have s2 := List.length_filter_le (fun r : Row => isIn r.a.1 os) h
  have e2 := k01_rest ⟨[], [(n0, fh), (n1, fv), (n2, fc), (n3, fy), (n4, fp), (n5, fo), (n6, fl)]⟩ h (h.filter fun r => isIn r.a.1 os) os (sset (lostL h)) (by omega) (by omega) (fun r hr => by
    have := isHolding_row H (List.mem_filter.mp hr).1
    have a := isRow_flds this
    have b := isRow_pts this
    omega) true true true true v0 v1 v3 v5 v6 v7 (.d true (enc (lostL h))) v9 v12 w15 v16 v17
  exact ⟨_, _, _, by rw [bI_eq, exB_app e1, e2]⟩
theorem k01_l2 (K : K1 e ns fh fv fc fk fy fp fo fl) (h : List Row) (H : isHolding h = true) (os : List Str) (o1 : os.all isOffice = true) (o2 : rising os = true) (v0 v1 v3 v5 v6 v7 v8 v9 v10 v11 v12 v13 v14 v15 v16 v17 : En) :
    ∃ w2 w3 w4 w5 w6 w7 w8 w9 w10 w11 w12 w13 w14 w15 w16 w17, exB ⟨[], [(n0, fh), (n1, fv), (n2, fc), (n3, fy), (n4, fp), (n5, fo), (n6, fl)]⟩ bL2 [v0, v1, .d true (enc h), v3, .o true (os.map enc), v5, v6, v7, v8, v9, v10, v11, v12, v13, v14, v15, v16, v17] = some (.nx [v0, v1, w2, w3, w4, w5, w6, w7, w8, w9, w10, w11, w12, w13, w14, w15, w16, w17]) := by
  have lh := isHolding_len H
  have big : 100 ≤ sizeLine := by decide
  obtain ⟨Γ1, h1, w9, rfl⟩ := lop_all (e := enc) (f := fun Γ d => exB ⟨[], [(n0, fh), (n1, fv), (n2, fc), (n3, fy), (n4, fp), (n5, fo), (n6, fl)]⟩ bG (Γ.set 9 (.d true d))) (fun (done : List Row) Γ => ∃ (v9 : En), Γ = [v0, v1, .d true (enc h), v3, .o true (os.map enc), v5, v6, .d true (enc (keysL h)), .d true (enc (done.flatMap fun r => r.c.filter fun k => !isIn k (keysL h))), v9, v10, v11, v12, v13, v14, v15, v16, v17]) h [v0, v1, .d true (enc h), v3, .o true (os.map enc), v5, v6, .d true (enc (keysL h)), .d true (.list []), v9, v10, v11, v12, v13, v14, v15, v16, v17] ⟨v9, rfl⟩ (by
    rintro d x r Γ hd ⟨v9, rfl⟩
    have l1 := lost_len H d fun y hy => by rw [hd]; exact List.mem_append_left _ hy
    have l2 := isRow_pts (isHolding_row H (r := x) (by rw [hd]; simp))
    have l3 := List.length_filter_le (fun k => !isIn k (keysL h)) x.c
    have l5 : d.length ≤ h.length := by rw [hd]; simp
    refine ⟨_, ?_, .d true (enc x), rfl⟩
    simp only [bG, run, exB, exS, ev, evs, evp, sets, enOf, vl, val_d, val_o, tr_b, tr_l, List.length_cons, List.length_nil, Nat.zero_add, Nat.reduceAdd, Nat.reduceSub, if_true, ite_true, List.map_cons, List.map_nil, List.map_id', Option.bind_some, Option.map_some, List.getElem?_cons_zero, List.getElem?_cons_succ, List.cons_append, List.nil_append, List.append_nil, List.replicate_succ, List.replicate_zero, List.set_cons_zero, List.set_cons_succ, wipeE, tg_nm, tg_2, tg_3, asI, asB, cpr_T, cprT_map, cprT_filter, it_enc, len_enc, isi_list, ix_k0, ix_k1, ix_r0, ix_r1, ix_r2, fold_list, Bool.not_true, Bool.not_false, reduceIte, decide_true, decide_false, Bool.and_true, Bool.and_false, Bool.true_and, Bool.false_and, Bool.or_true, Bool.or_false, Bool.true_or, Bool.false_or, cond_bind, cond_omap, and_b, or_b, chn_b, cond_true, cond_false, thn_nx, thn_rt, res_rt, res_nx, cond_res, cond_arb, isi_ky, isi_row, isi_str, len_ky, len_row, lv_true, lv_list, lv_bool, lv_int, lv_none, lv_str, lv_imm, eq_int, ne_int, eq_str, ne_str, lt_int, le_int, gt_int, ge_int, in_str, nin_str, in_int, nin_int, in_strs, it_zip_enc, it_enum_enc, sl_enc, slP_int, slP_none, val_mkO, mkO_imm, mkD_imm, mkD_list, mkD_row, list_enc, sz0, sz1, sz2, sz3, sz4, sz5, sz8, sz16, fold_row, fold_ky, lvs, List.all_cons, List.all_nil, all_enc, any_benc, mkL_bool, mkL_str, mkL_int, mkL_map, enc_int, enc_str, enc_bool, nin_enc _ _ (show Py.dp Ky ≤ 60 by decide), cat_enc _ _ (d.flatMap fun r => r.c.filter fun k => !isIn k (keysL h)) (x.c.filter fun k => !isIn k (keysL h)) (by omega), List.flatMap_append, List.flatMap_cons, List.flatMap_nil])
  obtain ⟨Γ2, h2, u9, u12, u13, u14, u15, rfl⟩ := lop_all (e := enc) (f := fun Γ d => exB ⟨[], [(n0, fh), (n1, fv), (n2, fc), (n3, fy), (n4, fp), (n5, fo), (n6, fl)]⟩ bI (Γ.set 12 (.d true d))) (fun (done : List Int) Γ => ∃ (v9 v12 v13 v14 v15 : En), Γ = [v0, v1, .d true (enc h), v3, .d true (enc os), v5, v6, .d true (enc (keysL h)), .d true (enc (lostL h)), v9, .d true (enc h), .d true (enc os), v12, v13, v14, v15, v16, v17]) (rngL 0 1 (2 : Int).toNat) [v0, v1, .d true (enc h), v3, .d true (enc os), v5, v6, .d true (enc (keysL h)), .d true (enc (lostL h)), w9, .d true (enc h), .d true (enc os), v12, v13, v14, v15, v16, v17] ⟨w9, v12, v13, v14, v15, rfl⟩ (by
    rintro d x r Γ hd ⟨v9, v12, v13, v14, v15, rfl⟩
    obtain ⟨w13, w14, w15, e⟩ := k01_in (n0 := n0) (n1 := n1) (n2 := n2) (n3 := n3) (n4 := n4) (n5 := n5) (n6 := n6) K h H os o1 o2 v0 v1 v3 v5 v6 (.d true (enc (keysL h))) v9 (.d true (enc x)) v13 v14 v15 v16 v17
    exact ⟨_, e, _, _, _, _, _, rfl⟩)
  refine ⟨.d true (enc h), v3, .d true (enc os), v5, v6, .d true (enc (keysL h)), .d true (enc (lostL h)), u9, .d true (enc h), .d true (enc os), u12, u13, u14, u15, v16, v17, ?_⟩
  rw [show (h.flatMap fun r => r.c.filter fun k => !isIn k (keysL h)) = lostL h from rfl] at h1
  simp only [bL2, run, exB, exS, ev, evs, evp, sets, enOf, vl, val_d, val_o, tr_b, tr_l, List.length_cons, List.length_nil, Nat.zero_add, Nat.reduceAdd, Nat.reduceSub, if_true, ite_true, List.map_cons, List.map_nil, List.map_id', Option.bind_some, Option.map_some, List.getElem?_cons_zero, List.getElem?_cons_succ, List.cons_append, List.nil_append, List.append_nil, List.replicate_succ, List.replicate_zero, List.set_cons_zero, List.set_cons_succ, wipeE, tg_nm, tg_2, tg_3, asI, asB, cpr_T, cprT_map, cprT_filter, it_enc, len_enc, isi_list, ix_k0, ix_k1, ix_r0, ix_r1, ix_r2, fold_list, Bool.not_true, Bool.not_false, reduceIte, decide_true, decide_false, Bool.and_true, Bool.and_false, Bool.true_and, Bool.false_and, Bool.or_true, Bool.or_false, Bool.true_or, Bool.false_or, cond_bind, cond_omap, and_b, or_b, chn_b, cond_true, cond_false, thn_nx, thn_rt, res_rt, res_nx, cond_res, cond_arb, isi_ky, isi_row, isi_str, len_ky, len_row, lv_true, lv_list, lv_bool, lv_int, lv_none, lv_str, lv_imm, eq_int, ne_int, eq_str, ne_str, lt_int, le_int, gt_int, ge_int, in_str, nin_str, in_int, nin_int, in_strs, it_zip_enc, it_enum_enc, sl_enc, slP_int, slP_none, val_mkO, mkO_imm, mkD_imm, mkD_list, mkD_row, list_enc, sz0, sz1, sz2, sz3, sz4, sz5, sz8, sz16, fold_row, fold_ky, lvs, List.all_cons, List.all_nil, all_enc, any_benc, mkL_bool, mkL_str, mkL_int, mkL_map, enc_int, enc_str, enc_bool, K.y, mkL_nil, h1, K.p, it_rng1 _ 2 (by omega) (by omega), h2]
end
end T2.Q
end
section
set_option Elab.async false
set_option linter.all false
set_option autoImplicit false
set_option maxRecDepth 100000
namespace T2.Q
open PySem PySem.Spec L2 T2
open T2.Py (enc)
theorem size_at (j k : Int) (h0 : 1 ≤ j) (h1 : j ≤ 100) (k0 : 1 ≤ k) : 0 ≤ Builtin.Range.rangeSize 0 j k ∧ Builtin.Range.rangeSize 0 j k ≤ 100 := by
  unfold Builtin.Range.rangeSize
  rw [if_pos (by omega), if_pos (by omega)]
  have a : 0 ≤ (j - 0 - 1) / k := Int.ediv_nonneg (by omega) (by omega)
  have b : (j - 0 - 1) / k ≤ j - 0 - 1 := Int.ediv_le_self _ (by omega)
  omega
theorem it_rng3 (a b c : Bool) (j k : Int) (h0 : 1 ≤ j) (h1 : j ≤ 100) (k0 : 1 ≤ k) (k1 : k ≤ 100) : itD .rng [(a, .int 0), (b, .int j), (c, .int k)] = some (true, (rngL 0 k (Builtin.Range.rangeSize 0 j k).toNat).map enc) := by
  have := size_at j k h0 h1 k0
  show (if (k ≠ 0 ∧ k.natAbs < 1073741824) ∧ Builtin.Range.small 0 j k = true ∧ 0 ≤ Builtin.Range.rangeSize 0 j k ∧ Builtin.Range.rangeSize 0 j k ≤ 16777216 then some (true, (rngL 0 k (Builtin.Range.rangeSize 0 j k).toNat).map PyData.int) else none) = _
  rw [if_pos]
  · rfl
  · refine ⟨⟨by omega, by omega⟩, ?_, this.1, by omega⟩
    have ft : ∀ i : Int, -1000 ≤ i → i ≤ 1000 → Builtin.Range.rangeFitsLong i = true := fun i a b => by
      unfold Builtin.Range.rangeFitsLong
      simp only [Bool.and_eq_true, decide_eq_true_eq]
      omega
    unfold Builtin.Range.small
    rw [ft 0 (by omega) (by omega), ft j (by omega) (by omega), ft k (by omega) (by omega), ft _ (by omega) (by omega), if_pos (by omega), ft (j + (k - 1)) (by omega) (by omega)]
    simp
theorem rngL_ge {c : Int} {n : Nat} {x : Int} (hc : 0 ≤ c) (h : x ∈ rngL 0 c n) : 0 ≤ x := by
  obtain ⟨i, hi⟩ := List.mem_iff_getElem?.mp h
  obtain ⟨h1, rfl⟩ := rngL_get hi
  have := Int.mul_nonneg (Int.natCast_nonneg i) hc
  omega
def h01 : List Row := [⟨(Str.ofString "a", 1), [Str.ofString "x"], [(Str.ofString "a", 1), (Str.ofString "b", 0)]⟩]
theorem h01_ok : isHolding h01 = true := by decide +kernel
theorem h01_lost : sset (lostL h01) = [(Str.ofString "b", 0)] := by decide +kernel
theorem h01_off : (h01.filter fun r => isIn r.a.1 [Str.ofString "b"]) = [] := by decide +kernel
theorem set16 (C : Cf) (Γ : List En) : exS C (.set 16 (.lst [(.tup [(.tup [(.lit (.str (Str.ofString "a"))), (.lit (.int 1))]), (.lst [(.lit (.str (Str.ofString "x")))]), (.lst [(.tup [(.lit (.str (Str.ofString "a"))), (.lit (.int 1))]), (.tup [(.lit (.str (Str.ofString "b"))), (.lit (.int 0))])])])])) Γ = some (.nx (Γ.set 16 (.d true (enc h01)))) := by rfl
def bE : List CS := [.ret (.and (.cmp .eq (.cal 6 [(.var 16)]) (.lst [(.tup [(.lit (.str (Str.ofString "b"))), (.lit (.int 0))])])) (.and (.cmp .eq (.cal 5 [(.var 16), (.lst [(.lit (.str (Str.ofString "b")))])]) (.lst [])) (.one (.cmp .eq (.cal 5 [(.lst []), (.lst [])]) (.lst [])))))]
section
variable {e : Nat} {ns : List Int} {fh fv fc fk fy fp fo fl : Fu} {n0 n1 n2 n3 n4 n5 n6 : Str}
theorem eq_b0 : cmpD .eq (enc ([(Str.ofString "b", 0)] : List Ky)) (.list [enc ((Str.ofString "b", 0) : Ky)]) = some true := (eq_enc ([(Str.ofString "b", 0)] : List Ky) [(Str.ofString "b", 0)]).trans (by simp)
theorem eq_nil : cmpD .eq (enc ([] : List Row)) (.list []) = some true := (eq_enc ([] : List Row) []).trans (by simp)
theorem k01_end (K : K1 e ns fh fv fc fk fy fp fo fl) (v0 v1 v2 v3 v4 v5 v6 v7 v8 v9 v10 v11 v12 v13 v14 v15 v17 : En) :
    exB ⟨[], [(n0, fh), (n1, fv), (n2, fc), (n3, fy), (n4, fp), (n5, fo), (n6, fl)]⟩ bE [v0, v1, v2, v3, v4, v5, v6, v7, v8, v9, v10, v11, v12, v13, v14, v15, .d true (enc h01), v17] = some (.rt true (.bool true)) := by
  have a1 : fl [(true, enc h01)] = some (true, enc ([(Str.ofString "b", 0)] : List Ky)) := by rw [K.l _ _ (hold_of h01_ok), h01_lost]
  have a2 : fo [(true, enc h01), (true, .list [.str (Str.ofString "b")])] = some (true, enc ([] : List Row)) := by
    have := K.o true true h01 [Str.ofString "b"] (hold_of h01_ok) (by decide +kernel) (by decide +kernel) (by decide +kernel)
    rw [h01_off] at this
    exact this
  have a3 : fo [(true, .list []), (true, .list [])] = some (true, enc ([] : List Row)) := K.o true true [] [] (hold_of (by decide +kernel)) (by simp) rfl rfl
  have b1 : mkL [(true, enc ((Str.ofString "b", 0) : Ky))] = .o true [.tuple [.str (Str.ofString "b"), .int 0]] := rfl
  simp only [bE, run, exB, exS, ev, evs, evp, sets, enOf, vl, val_d, val_o, tr_b, tr_l, List.length_cons, List.length_nil, Nat.zero_add, Nat.reduceAdd, Nat.reduceSub, if_true, ite_true, List.map_cons, List.map_nil, List.map_id', Option.bind_some, Option.map_some, List.getElem?_cons_zero, List.getElem?_cons_succ, List.cons_append, List.nil_append, List.append_nil, List.replicate_succ, List.replicate_zero, List.set_cons_zero, List.set_cons_succ, wipeE, tg_nm, tg_2, tg_3, asI, asB, cpr_T, cprT_map, cprT_filter, it_enc, len_enc, isi_list, ix_k0, ix_k1, ix_r0, ix_r1, ix_r2, fold_list, Bool.not_true, Bool.not_false, reduceIte, decide_true, decide_false, Bool.and_true, Bool.and_false, Bool.true_and, Bool.false_and, Bool.or_true, Bool.or_false, Bool.true_or, Bool.false_or, cond_bind, cond_omap, and_b, or_b, chn_b, cond_true, cond_false, thn_nx, thn_rt, res_rt, res_nx, cond_res, cond_arb, isi_ky, isi_row, isi_str, len_ky, len_row, lv_true, lv_list, lv_bool, lv_int, lv_none, lv_str, lv_imm, eq_int, ne_int, eq_str, ne_str, lt_int, le_int, gt_int, ge_int, in_str, nin_str, in_int, nin_int, in_strs, it_zip_enc, it_enum_enc, sl_enc, slP_int, slP_none, val_mkO, mkO_imm, mkD_imm, mkD_list, mkD_row, list_enc, sz0, sz1, sz2, sz3, sz4, sz5, sz8, sz16, fold_row, fold_ky, lvs, List.all_cons, List.all_nil, all_enc, any_benc, mkL_bool, mkL_str, mkL_int, mkL_map, enc_int, enc_str, enc_bool, a1, mkL_s, a2, mkL_nil, a3, b1, eq_b0, eq_nil]
theorem k01_body (K : K1 e ns fh fv fc fk fy fp fo fl) (l0 : Bool) (by_ : Int) (b0 : 0 ≤ by_) (v2 v3 v4 v5 v6 v7 v8 v9 v10 v11 v12 v13 v14 v15 v16 v17 : En) :
    ∃ w2 w3 w4 w5 w6 w7 w8 w9 w10 w11 w12 w13 w14 w15 w16 w17, exB ⟨[], [(n0, fh), (n1, fv), (n2, fc), (n3, fy), (n4, fp), (n5, fo), (n6, fl)]⟩ bL [.d l0 (enc ns), .d true (.int by_), v2, v3, v4, v5, v6, v7, v8, v9, v10, v11, v12, v13, v14, v15, v16, v17] = some (.nx [.d l0 (enc ns), .d true (.int by_), w2, w3, w4, w5, w6, w7, w8, w9, w10, w11, w12, w13, w14, w15, w16, w17]) := by
  obtain ⟨h, os, w3, w5, w6, H, o1, o2, o3, e1⟩ := k01_l1 (n0 := n0) (n1 := n1) (n2 := n2) (n3 := n3) (n4 := n4) (n5 := n5) (n6 := n6) K l0 by_ b0 v2 v3 v4 v5 v6 v7 v8 v9 v10 v11 v12 v13 v14 v15 v16 v17
  obtain ⟨u2, u3, u4, u5, u6, u7, u8, u9, u10, u11, u12, u13, u14, u15, u16, u17, e2⟩ := k01_l2 (n0 := n0) (n1 := n1) (n2 := n2) (n3 := n3) (n4 := n4) (n5 := n5) (n6 := n6) K h H os o1 o2 (.d l0 (enc ns)) (.d true (.int by_)) w3 w5 w6 v7 v8 v9 v10 v11 v12 v13 v14 v15 v16 v17
  exact ⟨u2, u3, u4, u5, u6, u7, u8, u9, u10, u11, u12, u13, u14, u15, u16, u17, by rw [bL, exB_app e1, e2]⟩
theorem b_k01_eq : b_law_k01 = [.set 0 (.sl (.var 0) (.lit .none) (.lit (.int 63))),
    .fo .rng [(.lit (.int 0)), (.blt .max [(.lit (.int 1)), (.blt .len [(.var 0)])]), (.bin .add (.lit (.int 1)) (.bin .fdv (.blt .len [(.var 0)]) (.lit (.int 5))))] (.nm 1) bL,
    .set 16 (.lst [(.tup [(.tup [(.lit (.str (Str.ofString "a"))), (.lit (.int 1))]), (.lst [(.lit (.str (Str.ofString "x")))]), (.lst [(.tup [(.lit (.str (Str.ofString "a"))), (.lit (.int 1))]), (.tup [(.lit (.str (Str.ofString "b"))), (.lit (.int 0))])])])])] ++ bE := rfl
theorem max_int (a b : Bool) (i j : Int) : bltD .max [(a, .int i), (b, .int j)] = some (.d true (.int (if j > i then j else i))) := rfl
theorem cut_all (ns : List Int) (h : ns.length ≤ 63) : cutL ns none (some 63) = ns := by
  rw [show (63 : Int) = ((63 : Nat) : Int) from rfl, cut_to, List.take_of_length_le h]
theorem k01_run (K : K1 e ns fh fv fc fk fy fp fo fl) (hn : ns.length ≤ 63) (b : Bool) : run ⟨[], [(n0, fh), (n1, fv), (n2, fc), (n3, fy), (n4, fp), (n5, fo), (n6, fl)]⟩ 1 18 b_law_k01 [(b, enc ns)] = some (true, .bool true) := by
  rw [b_k01_eq]
  obtain ⟨M, hM, M0, M1⟩ : ∃ M : Int, (if (ns.length : Int) > 1 then (ns.length : Int) else 1) = M ∧ 1 ≤ M ∧ M ≤ 100 := ⟨_, rfl, by split <;> omega, by split <;> omega⟩
  obtain ⟨Γ1, h1, w1, w2, w3, w4, w5, w6, w7, w8, w9, w10, w11, w12, w13, w14, w15, w16, w17, rfl⟩ := lop_all (e := enc) (f := fun Γ d => exB ⟨[], [(n0, fh), (n1, fv), (n2, fc), (n3, fy), (n4, fp), (n5, fo), (n6, fl)]⟩ bL (Γ.set 1 (.d true d))) (fun (done : List Int) Γ => ∃ (v1 v2 v3 v4 v5 v6 v7 v8 v9 v10 v11 v12 v13 v14 v15 v16 v17 : En), Γ = [.d true (enc ns), v1, v2, v3, v4, v5, v6, v7, v8, v9, v10, v11, v12, v13, v14, v15, v16, v17]) (rngL 0 (1 + (ns.length : Int) / 5) (Builtin.Range.rangeSize 0 M (1 + (ns.length : Int) / 5)).toNat) [.d true (enc ns), .no, .no, .no, .no, .no, .no, .no, .no, .no, .no, .no, .no, .no, .no, .no, .no, .no] ⟨_, _, _, _, _, _, _, _, _, _, _, _, _, _, _, _, _, rfl⟩ (by
    rintro d x r Γ hd ⟨v1, v2, v3, v4, v5, v6, v7, v8, v9, v10, v11, v12, v13, v14, v15, v16, v17, rfl⟩
    have hx := rngL_ge (by omega) (show x ∈ rngL 0 (1 + (ns.length : Int) / 5) (Builtin.Range.rangeSize 0 M (1 + (ns.length : Int) / 5)).toNat by rw [hd]; simp)
    obtain ⟨u2, u3, u4, u5, u6, u7, u8, u9, u10, u11, u12, u13, u14, u15, u16, u17, e2⟩ := k01_body (n0 := n0) (n1 := n1) (n2 := n2) (n3 := n3) (n4 := n4) (n5 := n5) (n6 := n6) K true x hx v2 v3 v4 v5 v6 v7 v8 v9 v10 v11 v12 v13 v14 v15 v16 v17
    exact ⟨_, e2, _, _, _, _, _, _, _, _, _, _, _, _, _, _, _, _, _, rfl⟩)
  have e3 := k01_end (n0 := n0) (n1 := n1) (n2 := n2) (n3 := n3) (n4 := n4) (n5 := n5) (n6 := n6) K (.d true (enc ns)) w1 w2 w3 w4 w5 w6 w7 w8 w9 w10 w11 w12 w13 w14 w15 w17
  have e4 : exB ⟨[], [(n0, fh), (n1, fv), (n2, fc), (n3, fy), (n4, fp), (n5, fo), (n6, fl)]⟩ [.set 0 (.sl (.var 0) (.lit .none) (.lit (.int 63))),
    .fo .rng [(.lit (.int 0)), (.blt .max [(.lit (.int 1)), (.blt .len [(.var 0)])]), (.bin .add (.lit (.int 1)) (.bin .fdv (.blt .len [(.var 0)]) (.lit (.int 5))))] (.nm 1) bL,
    .set 16 (.lst [(.tup [(.tup [(.lit (.str (Str.ofString "a"))), (.lit (.int 1))]), (.lst [(.lit (.str (Str.ofString "x")))]), (.lst [(.tup [(.lit (.str (Str.ofString "a"))), (.lit (.int 1))]), (.tup [(.lit (.str (Str.ofString "b"))), (.lit (.int 0))])])])])] [.d b (enc ns), .no, .no, .no, .no, .no, .no, .no, .no, .no, .no, .no, .no, .no, .no, .no, .no, .no] = some (.nx [.d true (enc ns), w1, w2, w3, w4, w5, w6, w7, w8, w9, w10, w11, w12, w13, w14, w15, .d true (enc h01), w17]) := by
    simp only [exB, set16]
    simp only [run, exB, exS, ev, evs, evp, sets, enOf, vl, val_d, val_o, tr_b, tr_l, List.length_cons, List.length_nil, Nat.zero_add, Nat.reduceAdd, Nat.reduceSub, if_true, ite_true, List.map_cons, List.map_nil, List.map_id', Option.bind_some, Option.map_some, List.getElem?_cons_zero, List.getElem?_cons_succ, List.cons_append, List.nil_append, List.append_nil, List.replicate_succ, List.replicate_zero, List.set_cons_zero, List.set_cons_succ, wipeE, tg_nm, tg_2, tg_3, asI, asB, cpr_T, cprT_map, cprT_filter, it_enc, len_enc, isi_list, ix_k0, ix_k1, ix_r0, ix_r1, ix_r2, fold_list, Bool.not_true, Bool.not_false, reduceIte, decide_true, decide_false, Bool.and_true, Bool.and_false, Bool.true_and, Bool.false_and, Bool.or_true, Bool.or_false, Bool.true_or, Bool.false_or, cond_bind, cond_omap, and_b, or_b, chn_b, cond_true, cond_false, thn_nx, thn_rt, res_rt, res_nx, cond_res, cond_arb, isi_ky, isi_row, isi_str, len_ky, len_row, lv_true, lv_list, lv_bool, lv_int, lv_none, lv_str, lv_imm, eq_int, ne_int, eq_str, ne_str, lt_int, le_int, gt_int, ge_int, in_str, nin_str, in_int, nin_int, in_strs, it_zip_enc, it_enum_enc, sl_enc, slP_int, slP_none, val_mkO, mkO_imm, mkD_imm, mkD_list, mkD_row, list_enc, sz0, sz1, sz2, sz3, sz4, sz5, sz8, sz16, fold_row, fold_ky, lvs, List.all_cons, List.all_nil, all_enc, any_benc, mkL_bool, mkL_str, mkL_int, mkL_map, enc_int, enc_str, enc_bool, cut_all ns hn, max_int, hM, bin_fdv _ _ (cdiv _ (show (0 : Int) < 5 by omega) (by omega)), bin_add, it_rng3 _ _ _ M (1 + (ns.length : Int) / 5) M0 M1 (by omega) (by omega), h1]
  show (exB _ _ [.d b (enc ns), .no, .no, .no, .no, .no, .no, .no, .no, .no, .no, .no, .no, .no, .no, .no, .no, .no]).bind Out.res = _
  rw [exB_app e4, e3]
  rfl
end
theorem law_run (ns : List Int) (hl : ns.length ≤ 63) (hb : ∀ z ∈ ns, Builtin.Int.intBits z ≤ 1048576) (b : Bool) : f_law_k01 [(b, enc ns)] = some (true, .bool true) := by
  have h20 : 60 ≤ 1048576 := by decide
  have he : 2 * 1048576 + 100 ≤ 134217728 := by decide
  exact k01_run (e := 1048576) ⟨r_law_holding h20 he hb, drw h20 he hb, r_law_keys, r_law_copy, r_of_offices, r_lost⟩ hl b
end T2.Q
end
section
set_option Elab.async false
set_option linter.all false
set_option autoImplicit false
set_option maxRecDepth 100000
namespace T2.Q.K01
open PySem PySem.Spec L2 T2
open PyProof.Rows hiding St
def topS (i : Nat) : Stmt := PySem.Challenge.pw_twooffices_k01_holdings.main.body.getD i (.Pass ⟨0, 0, 0, 0⟩)
abbrev s_is_whole : Stmt := topS 12
theorem sc_is_whole : FnScope n_is_whole [(Str.ofString "thing")] (defScope s_is_whole) := ⟨rfl, rfl, rfl, by decide +kernel, rfl, by decide +kernel, by decide +kernel⟩
theorem ck_is_whole : chkB ⟨n_is_whole, defScope s_is_whole, fun _ => true, c_is_whole⟩ b_is_whole (defBody s_is_whole) = true := by decide +kernel
abbrev s_is_word : Stmt := topS 13
theorem sc_is_word : FnScope n_is_word [(Str.ofString "thing"), (Str.ofString "least"), (Str.ofString "most")] (defScope s_is_word) := ⟨rfl, rfl, rfl, by decide +kernel, rfl, by decide +kernel, by decide +kernel⟩
theorem ck_is_word : chkB ⟨n_is_word, defScope s_is_word, fun _ => true, c_is_word⟩ b_is_word (defBody s_is_word) = true := by decide +kernel
abbrev s_is_office : Stmt := topS 14
theorem sc_is_office : FnScope n_is_office [(Str.ofString "thing")] (defScope s_is_office) := ⟨rfl, rfl, rfl, by decide +kernel, rfl, by decide +kernel, by decide +kernel⟩
theorem ck_is_office : chkB ⟨n_is_office, defScope s_is_office, fun _ => true, c_is_office⟩ b_is_office (defBody s_is_office) = true := by decide +kernel
abbrev s_is_key : Stmt := topS 15
theorem sc_is_key : FnScope n_is_key [(Str.ofString "thing")] (defScope s_is_key) := ⟨rfl, rfl, rfl, by decide +kernel, rfl, by decide +kernel, by decide +kernel⟩
theorem ck_is_key : chkB ⟨n_is_key, defScope s_is_key, fun _ => true, c_is_key⟩ b_is_key (defBody s_is_key) = true := by decide +kernel
abbrev s_is_rising : Stmt := topS 16
theorem sc_is_rising : FnScope n_is_rising [(Str.ofString "things")] (defScope s_is_rising) := ⟨rfl, rfl, rfl, by decide +kernel, rfl, by decide +kernel, by decide +kernel⟩
theorem ck_is_rising : chkB ⟨n_is_rising, defScope s_is_rising, fun _ => true, c_is_rising⟩ b_is_rising (defBody s_is_rising) = true := by decide +kernel
abbrev s_are_keys : Stmt := topS 17
theorem sc_are_keys : FnScope n_are_keys [(Str.ofString "thing")] (defScope s_are_keys) := ⟨rfl, rfl, rfl, by decide +kernel, rfl, by decide +kernel, by decide +kernel⟩
theorem ck_are_keys : chkB ⟨n_are_keys, defScope s_are_keys, fun _ => true, c_are_keys⟩ b_are_keys (defBody s_are_keys) = true := by decide +kernel
abbrev s_is_row : Stmt := topS 18
theorem sc_is_row : FnScope n_is_row [(Str.ofString "thing")] (defScope s_is_row) := ⟨rfl, rfl, rfl, by decide +kernel, rfl, by decide +kernel, by decide +kernel⟩
theorem ck_is_row : chkB ⟨n_is_row, defScope s_is_row, fun _ => true, c_is_row⟩ b_is_row (defBody s_is_row) = true := by decide +kernel
abbrev s_is_holding : Stmt := topS 19
theorem sc_is_holding : FnScope n_is_holding [(Str.ofString "thing")] (defScope s_is_holding) := ⟨rfl, rfl, rfl, by decide +kernel, rfl, by decide +kernel, by decide +kernel⟩
theorem ck_is_holding : chkB ⟨n_is_holding, defScope s_is_holding, fun _ => true, c_is_holding⟩ b_is_holding (defBody s_is_holding) = true := by decide +kernel
abbrev s_check_holding : Stmt := topS 20
theorem sc_check_holding : FnScope n_check_holding [(Str.ofString "holding")] (defScope s_check_holding) := ⟨rfl, rfl, rfl, by decide +kernel, rfl, by decide +kernel, by decide +kernel⟩
theorem ck_check_holding : chkB ⟨n_check_holding, defScope s_check_holding, fun _ => true, c_check_holding⟩ b_check_holding (defBody s_check_holding) = true := by decide +kernel
abbrev s_copied : Stmt := topS 21
theorem sc_copied : FnScope n_copied [(Str.ofString "rows")] (defScope s_copied) := ⟨rfl, rfl, rfl, by decide +kernel, rfl, by decide +kernel, by decide +kernel⟩
theorem ck_copied : chkB ⟨n_copied, defScope s_copied, fun _ => true, c_copied⟩ b_copied (defBody s_copied) = true := by decide +kernel
abbrev s_keys_of : Stmt := topS 22
theorem sc_keys_of : FnScope n_keys_of [(Str.ofString "holding")] (defScope s_keys_of) := ⟨rfl, rfl, rfl, by decide +kernel, rfl, by decide +kernel, by decide +kernel⟩
theorem ck_keys_of : chkB ⟨n_keys_of, defScope s_keys_of, fun _ => true, c_keys_of⟩ b_keys_of (defBody s_keys_of) = true := by decide +kernel
abbrev s_of_offices : Stmt := topS 24
theorem sc_of_offices : FnScope n_of_offices [(Str.ofString "holding"), (Str.ofString "offices")] (defScope s_of_offices) := ⟨rfl, rfl, rfl, by decide +kernel, rfl, by decide +kernel, by decide +kernel⟩
theorem ck_of_offices : chkB ⟨n_of_offices, defScope s_of_offices, fun _ => true, c_of_offices⟩ b_of_offices (defBody s_of_offices) = true := by decide +kernel
abbrev s_lost : Stmt := topS 25
theorem sc_lost : FnScope n_lost [(Str.ofString "holding")] (defScope s_lost) := ⟨rfl, rfl, rfl, by decide +kernel, rfl, by decide +kernel, by decide +kernel⟩
theorem ck_lost : chkB ⟨n_lost, defScope s_lost, fun _ => true, c_lost⟩ b_lost (defBody s_lost) = true := by decide +kernel
abbrev s_law_cell_at : Stmt := topS 27
theorem sc_law_cell_at : FnScope n_law_cell_at [(Str.ofString "_law_script"), (Str.ofString "_law_k")] (defScope s_law_cell_at) := ⟨rfl, rfl, rfl, by decide +kernel, rfl, by decide +kernel, by decide +kernel⟩
theorem ck_law_cell_at : chkB ⟨n_law_cell_at, defScope s_law_cell_at, fun _ => true, c_law_cell_at⟩ b_law_cell_at (defBody s_law_cell_at) = true := by decide +kernel
abbrev s_law_draw : Stmt := topS 28
theorem sc_law_draw : FnScope n_law_draw [(Str.ofString "_law_cell"), (Str.ofString "_law_k"), (Str.ofString "_law_many")] (defScope s_law_draw) := ⟨rfl, rfl, rfl, by decide +kernel, rfl, by decide +kernel, by decide +kernel⟩
theorem ck_law_draw : chkB ⟨n_law_draw, defScope s_law_draw, fun _ => true, c_law_draw⟩ b_law_draw (defBody s_law_draw) = true := by decide +kernel
abbrev s_law_value : Stmt := topS 29
theorem sc_law_value : FnScope n_law_value [(Str.ofString "_law_cell"), (Str.ofString "_law_turn")] (defScope s_law_value) := ⟨rfl, rfl, rfl, by decide +kernel, rfl, by decide +kernel, by decide +kernel⟩
theorem ck_law_value : chkB ⟨n_law_value, defScope s_law_value, fun _ => true, c_law_value⟩ b_law_value (defBody s_law_value) = true := by decide +kernel
abbrev s_law_key : Stmt := topS 30
theorem sc_law_key : FnScope n_law_key [(Str.ofString "_law_number")] (defScope s_law_key) := ⟨rfl, rfl, rfl, by decide +kernel, rfl, by decide +kernel, by decide +kernel⟩
theorem ck_law_key : chkB ⟨n_law_key, defScope s_law_key, fun _ => true, c_law_key⟩ b_law_key (defBody s_law_key) = true := by decide +kernel
abbrev s_law_row : Stmt := topS 31
theorem sc_law_row : FnScope n_law_row [(Str.ofString "_law_script"), (Str.ofString "_law_by"), (Str.ofString "_law_many"), (Str.ofString "_law_wide"), (Str.ofString "_law_kind")] (defScope s_law_row) := ⟨rfl, rfl, rfl, by decide +kernel, rfl, by decide +kernel, by decide +kernel⟩
theorem ck_law_row : chkB ⟨n_law_row, defScope s_law_row, fun _ => true, c_law_row⟩ b_law_row (defBody s_law_row) = true := by decide +kernel
abbrev s_law_holding : Stmt := topS 32
theorem sc_law_holding : FnScope n_law_holding [(Str.ofString "_law_script"), (Str.ofString "_law_by"), (Str.ofString "_law_most")] (defScope s_law_holding) := ⟨rfl, rfl, rfl, by decide +kernel, rfl, by decide +kernel, by decide +kernel⟩
theorem ck_law_holding : chkB ⟨n_law_holding, defScope s_law_holding, fun _ => true, c_law_holding⟩ b_law_holding (defBody s_law_holding) = true := by decide +kernel
abbrev s_law_copy : Stmt := topS 33
theorem sc_law_copy : FnScope n_law_copy [(Str.ofString "_law_holding_here")] (defScope s_law_copy) := ⟨rfl, rfl, rfl, by decide +kernel, rfl, by decide +kernel, by decide +kernel⟩
theorem ck_law_copy : chkB ⟨n_law_copy, defScope s_law_copy, fun _ => true, c_law_copy⟩ b_law_copy (defBody s_law_copy) = true := by decide +kernel
abbrev s_law_keys : Stmt := topS 34
theorem sc_law_keys : FnScope n_law_keys [(Str.ofString "_law_holding_here")] (defScope s_law_keys) := ⟨rfl, rfl, rfl, by decide +kernel, rfl, by decide +kernel, by decide +kernel⟩
theorem ck_law_keys : chkB ⟨n_law_keys, defScope s_law_keys, fun _ => true, c_law_keys⟩ b_law_keys (defBody s_law_keys) = true := by decide +kernel
abbrev s_law : Stmt := topS 35
theorem sc_law : FnScope n_law_k01 [(Str.ofString "_law_script")] (defScope s_law) := ⟨rfl, rfl, rfl, by decide +kernel, rfl, by decide +kernel, by decide +kernel⟩
theorem ck_law : chkB ⟨n_law_k01, defScope s_law, fun _ => true, c_law_k01⟩ b_law_k01 (defBody s_law) = true := by decide +kernel
theorem all_mk {w : World} {K : PySem.W.Frag} {h : Heap} {mg : Str → Option Value} {fa : Addr} (X : K.In h) (G : h.Ns mainGlobals mg) (hfa : mg (Str.ofString "law") = some (.ref fa)) (nk : noSq K = true)
    {g_is_whole : Addr} {od_is_whole an_is_whole : Option Addr} {sl_is_whole : Array (Option Value)} {oc_is_whole kv_is_whole dc_is_whole pm_is_whole cd_is_whole ct_is_whole : Value}
    (a_is_whole : PySem.W.nsIn K mainGlobals (Str.ofString "is_whole") = some (some (.ref g_is_whole))) (l_is_whole : K.lookup g_is_whole = some ⟨oc_is_whole, od_is_whole, .func (PySem.W.fnOf (Str.ofString "is_whole") (Str.ofString "is_whole") (defArgs s_is_whole) (defBody s_is_whole) (defScope s_is_whole) .none kv_is_whole dc_is_whole pm_is_whole an_is_whole cd_is_whole ct_is_whole), sl_is_whole⟩) (q_is_whole : PySem.W.codeIn K cd_is_whole (Str.ofString "is_whole") = true) (k_is_whole : PySem.W.keepIn K (.ref g_is_whole) = true)
    {g_is_word : Addr} {od_is_word an_is_word : Option Addr} {sl_is_word : Array (Option Value)} {oc_is_word kv_is_word dc_is_word pm_is_word cd_is_word ct_is_word : Value}
    (a_is_word : PySem.W.nsIn K mainGlobals (Str.ofString "is_word") = some (some (.ref g_is_word))) (l_is_word : K.lookup g_is_word = some ⟨oc_is_word, od_is_word, .func (PySem.W.fnOf (Str.ofString "is_word") (Str.ofString "is_word") (defArgs s_is_word) (defBody s_is_word) (defScope s_is_word) .none kv_is_word dc_is_word pm_is_word an_is_word cd_is_word ct_is_word), sl_is_word⟩) (q_is_word : PySem.W.codeIn K cd_is_word (Str.ofString "is_word") = true) (k_is_word : PySem.W.keepIn K (.ref g_is_word) = true)
    {g_is_office : Addr} {od_is_office an_is_office : Option Addr} {sl_is_office : Array (Option Value)} {oc_is_office kv_is_office dc_is_office pm_is_office cd_is_office ct_is_office : Value}
    (a_is_office : PySem.W.nsIn K mainGlobals (Str.ofString "is_office") = some (some (.ref g_is_office))) (l_is_office : K.lookup g_is_office = some ⟨oc_is_office, od_is_office, .func (PySem.W.fnOf (Str.ofString "is_office") (Str.ofString "is_office") (defArgs s_is_office) (defBody s_is_office) (defScope s_is_office) .none kv_is_office dc_is_office pm_is_office an_is_office cd_is_office ct_is_office), sl_is_office⟩) (q_is_office : PySem.W.codeIn K cd_is_office (Str.ofString "is_office") = true) (k_is_office : PySem.W.keepIn K (.ref g_is_office) = true)
    {g_is_key : Addr} {od_is_key an_is_key : Option Addr} {sl_is_key : Array (Option Value)} {oc_is_key kv_is_key dc_is_key pm_is_key cd_is_key ct_is_key : Value}
    (a_is_key : PySem.W.nsIn K mainGlobals (Str.ofString "is_key") = some (some (.ref g_is_key))) (l_is_key : K.lookup g_is_key = some ⟨oc_is_key, od_is_key, .func (PySem.W.fnOf (Str.ofString "is_key") (Str.ofString "is_key") (defArgs s_is_key) (defBody s_is_key) (defScope s_is_key) .none kv_is_key dc_is_key pm_is_key an_is_key cd_is_key ct_is_key), sl_is_key⟩) (q_is_key : PySem.W.codeIn K cd_is_key (Str.ofString "is_key") = true) (k_is_key : PySem.W.keepIn K (.ref g_is_key) = true)
    {g_is_rising : Addr} {od_is_rising an_is_rising : Option Addr} {sl_is_rising : Array (Option Value)} {oc_is_rising kv_is_rising dc_is_rising pm_is_rising cd_is_rising ct_is_rising : Value}
    (a_is_rising : PySem.W.nsIn K mainGlobals (Str.ofString "is_rising") = some (some (.ref g_is_rising))) (l_is_rising : K.lookup g_is_rising = some ⟨oc_is_rising, od_is_rising, .func (PySem.W.fnOf (Str.ofString "is_rising") (Str.ofString "is_rising") (defArgs s_is_rising) (defBody s_is_rising) (defScope s_is_rising) .none kv_is_rising dc_is_rising pm_is_rising an_is_rising cd_is_rising ct_is_rising), sl_is_rising⟩) (q_is_rising : PySem.W.codeIn K cd_is_rising (Str.ofString "is_rising") = true) (k_is_rising : PySem.W.keepIn K (.ref g_is_rising) = true)
    {g_are_keys : Addr} {od_are_keys an_are_keys : Option Addr} {sl_are_keys : Array (Option Value)} {oc_are_keys kv_are_keys dc_are_keys pm_are_keys cd_are_keys ct_are_keys : Value}
    (a_are_keys : PySem.W.nsIn K mainGlobals (Str.ofString "are_keys") = some (some (.ref g_are_keys))) (l_are_keys : K.lookup g_are_keys = some ⟨oc_are_keys, od_are_keys, .func (PySem.W.fnOf (Str.ofString "are_keys") (Str.ofString "are_keys") (defArgs s_are_keys) (defBody s_are_keys) (defScope s_are_keys) .none kv_are_keys dc_are_keys pm_are_keys an_are_keys cd_are_keys ct_are_keys), sl_are_keys⟩) (q_are_keys : PySem.W.codeIn K cd_are_keys (Str.ofString "are_keys") = true) (k_are_keys : PySem.W.keepIn K (.ref g_are_keys) = true)
    {g_is_row : Addr} {od_is_row an_is_row : Option Addr} {sl_is_row : Array (Option Value)} {oc_is_row kv_is_row dc_is_row pm_is_row cd_is_row ct_is_row : Value}
    (a_is_row : PySem.W.nsIn K mainGlobals (Str.ofString "is_row") = some (some (.ref g_is_row))) (l_is_row : K.lookup g_is_row = some ⟨oc_is_row, od_is_row, .func (PySem.W.fnOf (Str.ofString "is_row") (Str.ofString "is_row") (defArgs s_is_row) (defBody s_is_row) (defScope s_is_row) .none kv_is_row dc_is_row pm_is_row an_is_row cd_is_row ct_is_row), sl_is_row⟩) (q_is_row : PySem.W.codeIn K cd_is_row (Str.ofString "is_row") = true) (k_is_row : PySem.W.keepIn K (.ref g_is_row) = true)
    {g_is_holding : Addr} {od_is_holding an_is_holding : Option Addr} {sl_is_holding : Array (Option Value)} {oc_is_holding kv_is_holding dc_is_holding pm_is_holding cd_is_holding ct_is_holding : Value}
    (a_is_holding : PySem.W.nsIn K mainGlobals (Str.ofString "is_holding") = some (some (.ref g_is_holding))) (l_is_holding : K.lookup g_is_holding = some ⟨oc_is_holding, od_is_holding, .func (PySem.W.fnOf (Str.ofString "is_holding") (Str.ofString "is_holding") (defArgs s_is_holding) (defBody s_is_holding) (defScope s_is_holding) .none kv_is_holding dc_is_holding pm_is_holding an_is_holding cd_is_holding ct_is_holding), sl_is_holding⟩) (q_is_holding : PySem.W.codeIn K cd_is_holding (Str.ofString "is_holding") = true) (k_is_holding : PySem.W.keepIn K (.ref g_is_holding) = true)
    {g_check_holding : Addr} {od_check_holding an_check_holding : Option Addr} {sl_check_holding : Array (Option Value)} {oc_check_holding kv_check_holding dc_check_holding pm_check_holding cd_check_holding ct_check_holding : Value}
    (a_check_holding : PySem.W.nsIn K mainGlobals (Str.ofString "check_holding") = some (some (.ref g_check_holding))) (l_check_holding : K.lookup g_check_holding = some ⟨oc_check_holding, od_check_holding, .func (PySem.W.fnOf (Str.ofString "check_holding") (Str.ofString "check_holding") (defArgs s_check_holding) (defBody s_check_holding) (defScope s_check_holding) .none kv_check_holding dc_check_holding pm_check_holding an_check_holding cd_check_holding ct_check_holding), sl_check_holding⟩) (q_check_holding : PySem.W.codeIn K cd_check_holding (Str.ofString "check_holding") = true) (k_check_holding : PySem.W.keepIn K (.ref g_check_holding) = true)
    {g_copied : Addr} {od_copied an_copied : Option Addr} {sl_copied : Array (Option Value)} {oc_copied kv_copied dc_copied pm_copied cd_copied ct_copied : Value}
    (a_copied : PySem.W.nsIn K mainGlobals (Str.ofString "copied") = some (some (.ref g_copied))) (l_copied : K.lookup g_copied = some ⟨oc_copied, od_copied, .func (PySem.W.fnOf (Str.ofString "copied") (Str.ofString "copied") (defArgs s_copied) (defBody s_copied) (defScope s_copied) .none kv_copied dc_copied pm_copied an_copied cd_copied ct_copied), sl_copied⟩) (q_copied : PySem.W.codeIn K cd_copied (Str.ofString "copied") = true) (k_copied : PySem.W.keepIn K (.ref g_copied) = true)
    {g_keys_of : Addr} {od_keys_of an_keys_of : Option Addr} {sl_keys_of : Array (Option Value)} {oc_keys_of kv_keys_of dc_keys_of pm_keys_of cd_keys_of ct_keys_of : Value}
    (a_keys_of : PySem.W.nsIn K mainGlobals (Str.ofString "keys_of") = some (some (.ref g_keys_of))) (l_keys_of : K.lookup g_keys_of = some ⟨oc_keys_of, od_keys_of, .func (PySem.W.fnOf (Str.ofString "keys_of") (Str.ofString "keys_of") (defArgs s_keys_of) (defBody s_keys_of) (defScope s_keys_of) .none kv_keys_of dc_keys_of pm_keys_of an_keys_of cd_keys_of ct_keys_of), sl_keys_of⟩) (q_keys_of : PySem.W.codeIn K cd_keys_of (Str.ofString "keys_of") = true) (k_keys_of : PySem.W.keepIn K (.ref g_keys_of) = true)
    {g_of_offices : Addr} {od_of_offices an_of_offices : Option Addr} {sl_of_offices : Array (Option Value)} {oc_of_offices kv_of_offices dc_of_offices pm_of_offices cd_of_offices ct_of_offices : Value}
    (a_of_offices : PySem.W.nsIn K mainGlobals (Str.ofString "of_offices") = some (some (.ref g_of_offices))) (l_of_offices : K.lookup g_of_offices = some ⟨oc_of_offices, od_of_offices, .func (PySem.W.fnOf (Str.ofString "of_offices") (Str.ofString "of_offices") (defArgs s_of_offices) (defBody s_of_offices) (defScope s_of_offices) .none kv_of_offices dc_of_offices pm_of_offices an_of_offices cd_of_offices ct_of_offices), sl_of_offices⟩) (q_of_offices : PySem.W.codeIn K cd_of_offices (Str.ofString "of_offices") = true) (k_of_offices : PySem.W.keepIn K (.ref g_of_offices) = true)
    {g_lost : Addr} {od_lost an_lost : Option Addr} {sl_lost : Array (Option Value)} {oc_lost kv_lost dc_lost pm_lost cd_lost ct_lost : Value}
    (a_lost : PySem.W.nsIn K mainGlobals (Str.ofString "lost") = some (some (.ref g_lost))) (l_lost : K.lookup g_lost = some ⟨oc_lost, od_lost, .func (PySem.W.fnOf (Str.ofString "lost") (Str.ofString "lost") (defArgs s_lost) (defBody s_lost) (defScope s_lost) .none kv_lost dc_lost pm_lost an_lost cd_lost ct_lost), sl_lost⟩) (q_lost : PySem.W.codeIn K cd_lost (Str.ofString "lost") = true) (k_lost : PySem.W.keepIn K (.ref g_lost) = true)
    {g_law_cell_at : Addr} {od_law_cell_at an_law_cell_at : Option Addr} {sl_law_cell_at : Array (Option Value)} {oc_law_cell_at kv_law_cell_at dc_law_cell_at pm_law_cell_at cd_law_cell_at ct_law_cell_at : Value}
    (a_law_cell_at : PySem.W.nsIn K mainGlobals (Str.ofString "_law_cell_at") = some (some (.ref g_law_cell_at))) (l_law_cell_at : K.lookup g_law_cell_at = some ⟨oc_law_cell_at, od_law_cell_at, .func (PySem.W.fnOf (Str.ofString "_law_cell_at") (Str.ofString "_law_cell_at") (defArgs s_law_cell_at) (defBody s_law_cell_at) (defScope s_law_cell_at) .none kv_law_cell_at dc_law_cell_at pm_law_cell_at an_law_cell_at cd_law_cell_at ct_law_cell_at), sl_law_cell_at⟩) (q_law_cell_at : PySem.W.codeIn K cd_law_cell_at (Str.ofString "_law_cell_at") = true) (k_law_cell_at : PySem.W.keepIn K (.ref g_law_cell_at) = true)
    {g_law_draw : Addr} {od_law_draw an_law_draw : Option Addr} {sl_law_draw : Array (Option Value)} {oc_law_draw kv_law_draw dc_law_draw pm_law_draw cd_law_draw ct_law_draw : Value}
    (a_law_draw : PySem.W.nsIn K mainGlobals (Str.ofString "_law_draw") = some (some (.ref g_law_draw))) (l_law_draw : K.lookup g_law_draw = some ⟨oc_law_draw, od_law_draw, .func (PySem.W.fnOf (Str.ofString "_law_draw") (Str.ofString "_law_draw") (defArgs s_law_draw) (defBody s_law_draw) (defScope s_law_draw) .none kv_law_draw dc_law_draw pm_law_draw an_law_draw cd_law_draw ct_law_draw), sl_law_draw⟩) (q_law_draw : PySem.W.codeIn K cd_law_draw (Str.ofString "_law_draw") = true) (k_law_draw : PySem.W.keepIn K (.ref g_law_draw) = true)
    {g_law_value : Addr} {od_law_value an_law_value : Option Addr} {sl_law_value : Array (Option Value)} {oc_law_value kv_law_value dc_law_value pm_law_value cd_law_value ct_law_value : Value}
    (a_law_value : PySem.W.nsIn K mainGlobals (Str.ofString "_law_value") = some (some (.ref g_law_value))) (l_law_value : K.lookup g_law_value = some ⟨oc_law_value, od_law_value, .func (PySem.W.fnOf (Str.ofString "_law_value") (Str.ofString "_law_value") (defArgs s_law_value) (defBody s_law_value) (defScope s_law_value) .none kv_law_value dc_law_value pm_law_value an_law_value cd_law_value ct_law_value), sl_law_value⟩) (q_law_value : PySem.W.codeIn K cd_law_value (Str.ofString "_law_value") = true) (k_law_value : PySem.W.keepIn K (.ref g_law_value) = true)
    {g_law_key : Addr} {od_law_key an_law_key : Option Addr} {sl_law_key : Array (Option Value)} {oc_law_key kv_law_key dc_law_key pm_law_key cd_law_key ct_law_key : Value}
    (a_law_key : PySem.W.nsIn K mainGlobals (Str.ofString "_law_key") = some (some (.ref g_law_key))) (l_law_key : K.lookup g_law_key = some ⟨oc_law_key, od_law_key, .func (PySem.W.fnOf (Str.ofString "_law_key") (Str.ofString "_law_key") (defArgs s_law_key) (defBody s_law_key) (defScope s_law_key) .none kv_law_key dc_law_key pm_law_key an_law_key cd_law_key ct_law_key), sl_law_key⟩) (q_law_key : PySem.W.codeIn K cd_law_key (Str.ofString "_law_key") = true) (k_law_key : PySem.W.keepIn K (.ref g_law_key) = true)
    {g_law_row : Addr} {od_law_row an_law_row : Option Addr} {sl_law_row : Array (Option Value)} {oc_law_row kv_law_row dc_law_row pm_law_row cd_law_row ct_law_row : Value}
    (a_law_row : PySem.W.nsIn K mainGlobals (Str.ofString "_law_row") = some (some (.ref g_law_row))) (l_law_row : K.lookup g_law_row = some ⟨oc_law_row, od_law_row, .func (PySem.W.fnOf (Str.ofString "_law_row") (Str.ofString "_law_row") (defArgs s_law_row) (defBody s_law_row) (defScope s_law_row) .none kv_law_row dc_law_row pm_law_row an_law_row cd_law_row ct_law_row), sl_law_row⟩) (q_law_row : PySem.W.codeIn K cd_law_row (Str.ofString "_law_row") = true) (k_law_row : PySem.W.keepIn K (.ref g_law_row) = true)
    {g_law_holding : Addr} {od_law_holding an_law_holding : Option Addr} {sl_law_holding : Array (Option Value)} {oc_law_holding kv_law_holding dc_law_holding pm_law_holding cd_law_holding ct_law_holding : Value}
    (a_law_holding : PySem.W.nsIn K mainGlobals (Str.ofString "_law_holding") = some (some (.ref g_law_holding))) (l_law_holding : K.lookup g_law_holding = some ⟨oc_law_holding, od_law_holding, .func (PySem.W.fnOf (Str.ofString "_law_holding") (Str.ofString "_law_holding") (defArgs s_law_holding) (defBody s_law_holding) (defScope s_law_holding) .none kv_law_holding dc_law_holding pm_law_holding an_law_holding cd_law_holding ct_law_holding), sl_law_holding⟩) (q_law_holding : PySem.W.codeIn K cd_law_holding (Str.ofString "_law_holding") = true) (k_law_holding : PySem.W.keepIn K (.ref g_law_holding) = true)
    {g_law_copy : Addr} {od_law_copy an_law_copy : Option Addr} {sl_law_copy : Array (Option Value)} {oc_law_copy kv_law_copy dc_law_copy pm_law_copy cd_law_copy ct_law_copy : Value}
    (a_law_copy : PySem.W.nsIn K mainGlobals (Str.ofString "_law_copy") = some (some (.ref g_law_copy))) (l_law_copy : K.lookup g_law_copy = some ⟨oc_law_copy, od_law_copy, .func (PySem.W.fnOf (Str.ofString "_law_copy") (Str.ofString "_law_copy") (defArgs s_law_copy) (defBody s_law_copy) (defScope s_law_copy) .none kv_law_copy dc_law_copy pm_law_copy an_law_copy cd_law_copy ct_law_copy), sl_law_copy⟩) (q_law_copy : PySem.W.codeIn K cd_law_copy (Str.ofString "_law_copy") = true) (k_law_copy : PySem.W.keepIn K (.ref g_law_copy) = true)
    {g_law_keys : Addr} {od_law_keys an_law_keys : Option Addr} {sl_law_keys : Array (Option Value)} {oc_law_keys kv_law_keys dc_law_keys pm_law_keys cd_law_keys ct_law_keys : Value}
    (a_law_keys : PySem.W.nsIn K mainGlobals (Str.ofString "_law_keys") = some (some (.ref g_law_keys))) (l_law_keys : K.lookup g_law_keys = some ⟨oc_law_keys, od_law_keys, .func (PySem.W.fnOf (Str.ofString "_law_keys") (Str.ofString "_law_keys") (defArgs s_law_keys) (defBody s_law_keys) (defScope s_law_keys) .none kv_law_keys dc_law_keys pm_law_keys an_law_keys cd_law_keys ct_law_keys), sl_law_keys⟩) (q_law_keys : PySem.W.codeIn K cd_law_keys (Str.ofString "_law_keys") = true) (k_law_keys : PySem.W.keepIn K (.ref g_law_keys) = true)
    {g_law : Addr} {od_law an_law : Option Addr} {sl_law : Array (Option Value)} {oc_law kv_law dc_law pm_law cd_law ct_law : Value}
    (a_law : PySem.W.nsIn K mainGlobals (Str.ofString "law") = some (some (.ref g_law))) (l_law : K.lookup g_law = some ⟨oc_law, od_law, .func (PySem.W.fnOf (Str.ofString "law") (Str.ofString "law") (defArgs s_law) (defBody s_law) (defScope s_law) .none kv_law dc_law pm_law an_law cd_law ct_law), sl_law⟩) (q_law : PySem.W.codeIn K cd_law (Str.ofString "law") = true) (k_law : PySem.W.keepIn K (.ref g_law) = true)
    (z_len : PySem.W.nsIn K mainGlobals (Str.ofString "len") = some none)
    (z_all : PySem.W.nsIn K mainGlobals (Str.ofString "all") = some none)
    (z_any : PySem.W.nsIn K mainGlobals (Str.ofString "any") = some none)
    (z_sorted : PySem.W.nsIn K mainGlobals (Str.ofString "sorted") = some none)
    (z_list : PySem.W.nsIn K mainGlobals (Str.ofString "list") = some none)
    (z_max : PySem.W.nsIn K mainGlobals (Str.ofString "max") = some none)
    (z_min : PySem.W.nsIn K mainGlobals (Str.ofString "min") = some none)
    (z_isinstance : PySem.W.nsIn K mainGlobals (Str.ofString "isinstance") = some none)
    (z_range : PySem.W.nsIn K mainGlobals (Str.ofString "range") = some none)
    (z_enumerate : PySem.W.nsIn K mainGlobals (Str.ofString "enumerate") = some none)
    (z_zip : PySem.W.nsIn K mainGlobals (Str.ofString "zip") = some none)
    (z_tuple : PySem.W.nsIn K mainGlobals (Str.ofString "tuple") = some none)
    (z_str : PySem.W.nsIn K mainGlobals (Str.ofString "str") = some none)
    (z_int : PySem.W.nsIn K mainGlobals (Str.ofString "int") = some none)
    (z_bool : PySem.W.nsIn K mainGlobals (Str.ofString "bool") = some none)
    (z_set : PySem.W.nsIn K mainGlobals (Str.ofString "set") = some none)
    {t_LETTERS : Tok} (m_LETTERS : PySem.W.nsIn K mainGlobals (Str.ofString "LETTERS") = some (some (.str (Str.ofString "abcdefghijklmnopqrstuvwxyz") t_LETTERS)))
    {t_LONGEST_OFFICE : Tok} (m_LONGEST_OFFICE : PySem.W.nsIn K mainGlobals (Str.ofString "LONGEST_OFFICE") = some (some (.int 8 t_LONGEST_OFFICE)))
    {t_GREATEST : Tok} (m_GREATEST : PySem.W.nsIn K mainGlobals (Str.ofString "GREATEST") = some (some (.int 1000000 t_GREATEST)))
    {t_LONGEST_FIELD : Tok} (m_LONGEST_FIELD : PySem.W.nsIn K mainGlobals (Str.ofString "LONGEST_FIELD") = some (some (.int 12 t_LONGEST_FIELD)))
    {t_MOST_FIELDS : Tok} (m_MOST_FIELDS : PySem.W.nsIn K mainGlobals (Str.ofString "MOST_FIELDS") = some (some (.int 3 t_MOST_FIELDS)))
    {t_MOST_POINTINGS : Tok} (m_MOST_POINTINGS : PySem.W.nsIn K mainGlobals (Str.ofString "MOST_POINTINGS") = some (some (.int 3 t_MOST_POINTINGS)))
    {t_MOST_ROWS : Tok} (m_MOST_ROWS : PySem.W.nsIn K mainGlobals (Str.ofString "MOST_ROWS") = some (some (.int 10 t_MOST_ROWS)))
    : ∃ fd : FuncData, (∀ (s : Shared) (v : Value), BindsTo s fd ⟨[v], []⟩ [((Str.ofString "_law_script"), v)]) ∧ ∀ base : Heap, K.In base → base.Ns mainGlobals mg → FnOk PySem.Challenge.pw_twooffices_k01_holdings w K mg base CX0 9 fa fd [(Str.ofString "_law_script")] (spB K (fun as r => f_law_k01 as = some r)) := by
  have e := hfa.symm.trans (PySem.W.mg_of X G a_law)
  cases e
  have bl : ∀ x ∈ bltNames, mg (Str.ofString x) = none := by
    intro x hx
    simp only [bltNames, List.mem_cons, List.not_mem_nil, or_false] at hx
    rcases hx with rfl | rfl | rfl | rfl | rfl | rfl | rfl | rfl | rfl | rfl | rfl | rfl | rfl | rfl | rfl | rfl
    · exact PySem.W.mg_none_of X G z_len
    · exact PySem.W.mg_none_of X G z_all
    · exact PySem.W.mg_none_of X G z_any
    · exact PySem.W.mg_none_of X G z_sorted
    · exact PySem.W.mg_none_of X G z_list
    · exact PySem.W.mg_none_of X G z_max
    · exact PySem.W.mg_none_of X G z_min
    · exact PySem.W.mg_none_of X G z_isinstance
    · exact PySem.W.mg_none_of X G z_range
    · exact PySem.W.mg_none_of X G z_enumerate
    · exact PySem.W.mg_none_of X G z_zip
    · exact PySem.W.mg_none_of X G z_tuple
    · exact PySem.W.mg_none_of X G z_str
    · exact PySem.W.mg_none_of X G z_int
    · exact PySem.W.mg_none_of X G z_bool
    · exact PySem.W.mg_none_of X G z_set
  have u_LETTERS := PySem.W.mg_of X G m_LETTERS
  have u_LONGEST_OFFICE := PySem.W.mg_of X G m_LONGEST_OFFICE
  have u_GREATEST := PySem.W.mg_of X G m_GREATEST
  have u_LONGEST_FIELD := PySem.W.mg_of X G m_LONGEST_FIELD
  have u_MOST_FIELDS := PySem.W.mg_of X G m_MOST_FIELDS
  have u_MOST_POINTINGS := PySem.W.mg_of X G m_MOST_POINTINGS
  have u_MOST_ROWS := PySem.W.mg_of X G m_MOST_ROWS
  have F_law := fun_mk (st := s_law) l_law q_law k_law
  refine ⟨PySem.W.fnOf (Str.ofString "law") (Str.ofString "law") (defArgs s_law) (defBody s_law) (defScope s_law) .none kv_law dc_law pm_law an_law cd_law ct_law, fun s v => .of_eq rfl, fun base _ _ => ?_⟩
  have F_is_whole := fun_mk (st := s_is_whole) l_is_whole q_is_whole k_is_whole
  have B_is_whole := F_is_whole.binds (ps := [(Str.ofString "thing")]) fun _ _ _ _ _ _ us hl => match us, hl with | [_], _ => rfl
  have d_is_whole : FnD PySem.Challenge.pw_twooffices_k01_holdings w K mg base 1 (Str.ofString "is_whole") (fun as r => f_is_whole as = some r) := fn_ok F_is_whole sc_is_whole (PySem.W.mg_of X G a_is_whole) B_is_whole nk bl ck_is_whole (cty_nil gl_nil)
  have F_is_word := fun_mk (st := s_is_word) l_is_word q_is_word k_is_word
  have B_is_word := F_is_word.binds (ps := [(Str.ofString "thing"), (Str.ofString "least"), (Str.ofString "most")]) fun _ _ _ _ _ _ us hl => match us, hl with | [_, _, _], _ => rfl
  have d_is_word : FnD PySem.Challenge.pw_twooffices_k01_holdings w K mg base 1 (Str.ofString "is_word") (fun as r => f_is_word as = some r) := fn_ok F_is_word sc_is_word (PySem.W.mg_of X G a_is_word) B_is_word nk bl ck_is_word (cty_nil (gl_str u_LETTERS gl_nil))
  have F_is_office := fun_mk (st := s_is_office) l_is_office q_is_office k_is_office
  have B_is_office := F_is_office.binds (ps := [(Str.ofString "thing")]) fun _ _ _ _ _ _ us hl => match us, hl with | [_], _ => rfl
  have d_is_office : FnD PySem.Challenge.pw_twooffices_k01_holdings w K mg base 2 (Str.ofString "is_office") (fun as r => f_is_office as = some r) := fn_ok F_is_office sc_is_office (PySem.W.mg_of X G a_is_office) B_is_office nk bl ck_is_office (cty_fn d_is_word (by decide) (cty_nil (gl_int u_LONGEST_OFFICE gl_nil)))
  have F_is_key := fun_mk (st := s_is_key) l_is_key q_is_key k_is_key
  have B_is_key := F_is_key.binds (ps := [(Str.ofString "thing")]) fun _ _ _ _ _ _ us hl => match us, hl with | [_], _ => rfl
  have d_is_key : FnD PySem.Challenge.pw_twooffices_k01_holdings w K mg base 3 (Str.ofString "is_key") (fun as r => f_is_key as = some r) := fn_ok F_is_key sc_is_key (PySem.W.mg_of X G a_is_key) B_is_key nk bl ck_is_key (cty_fn d_is_office (by decide) (cty_fn d_is_whole (by decide) (cty_nil (gl_int u_GREATEST gl_nil))))
  have F_is_rising := fun_mk (st := s_is_rising) l_is_rising q_is_rising k_is_rising
  have B_is_rising := F_is_rising.binds (ps := [(Str.ofString "things")]) fun _ _ _ _ _ _ us hl => match us, hl with | [_], _ => rfl
  have d_is_rising : FnD PySem.Challenge.pw_twooffices_k01_holdings w K mg base 1 (Str.ofString "is_rising") (fun as r => f_is_rising as = some r) := fn_ok F_is_rising sc_is_rising (PySem.W.mg_of X G a_is_rising) B_is_rising nk bl ck_is_rising (cty_nil gl_nil)
  have F_are_keys := fun_mk (st := s_are_keys) l_are_keys q_are_keys k_are_keys
  have B_are_keys := F_are_keys.binds (ps := [(Str.ofString "thing")]) fun _ _ _ _ _ _ us hl => match us, hl with | [_], _ => rfl
  have d_are_keys : FnD PySem.Challenge.pw_twooffices_k01_holdings w K mg base 4 (Str.ofString "are_keys") (fun as r => f_are_keys as = some r) := fn_ok F_are_keys sc_are_keys (PySem.W.mg_of X G a_are_keys) B_are_keys nk bl ck_are_keys (cty_fn d_is_rising (by decide) (cty_fn d_is_key (by decide) (cty_nil gl_nil)))
  have F_is_row := fun_mk (st := s_is_row) l_is_row q_is_row k_is_row
  have B_is_row := F_is_row.binds (ps := [(Str.ofString "thing")]) fun _ _ _ _ _ _ us hl => match us, hl with | [_], _ => rfl
  have d_is_row : FnD PySem.Challenge.pw_twooffices_k01_holdings w K mg base 5 (Str.ofString "is_row") (fun as r => f_is_row as = some r) := fn_ok F_is_row sc_is_row (PySem.W.mg_of X G a_is_row) B_is_row nk bl ck_is_row (cty_fn d_is_key (by decide) (cty_fn d_is_word (by decide) (cty_fn d_are_keys (by decide) (cty_nil (gl_int u_LONGEST_FIELD (gl_int u_MOST_FIELDS (gl_int u_MOST_POINTINGS gl_nil)))))))
  have F_is_holding := fun_mk (st := s_is_holding) l_is_holding q_is_holding k_is_holding
  have B_is_holding := F_is_holding.binds (ps := [(Str.ofString "thing")]) fun _ _ _ _ _ _ us hl => match us, hl with | [_], _ => rfl
  have d_is_holding : FnD PySem.Challenge.pw_twooffices_k01_holdings w K mg base 6 (Str.ofString "is_holding") (fun as r => f_is_holding as = some r) := fn_ok F_is_holding sc_is_holding (PySem.W.mg_of X G a_is_holding) B_is_holding nk bl ck_is_holding (cty_fn d_is_row (by decide) (cty_fn d_is_rising (by decide) (cty_nil (gl_int u_MOST_ROWS gl_nil))))
  have F_check_holding := fun_mk (st := s_check_holding) l_check_holding q_check_holding k_check_holding
  have B_check_holding := F_check_holding.binds (ps := [(Str.ofString "holding")]) fun _ _ _ _ _ _ us hl => match us, hl with | [_], _ => rfl
  have d_check_holding : FnD PySem.Challenge.pw_twooffices_k01_holdings w K mg base 7 (Str.ofString "check_holding") (fun as r => f_check_holding as = some r) := fn_ok F_check_holding sc_check_holding (PySem.W.mg_of X G a_check_holding) B_check_holding nk bl ck_check_holding (cty_fn d_is_holding (by decide) (cty_nil gl_nil))
  have F_copied := fun_mk (st := s_copied) l_copied q_copied k_copied
  have B_copied := F_copied.binds (ps := [(Str.ofString "rows")]) fun _ _ _ _ _ _ us hl => match us, hl with | [_], _ => rfl
  have d_copied : FnD PySem.Challenge.pw_twooffices_k01_holdings w K mg base 1 (Str.ofString "copied") (fun as r => f_copied as = some r) := fn_ok F_copied sc_copied (PySem.W.mg_of X G a_copied) B_copied nk bl ck_copied (cty_nil gl_nil)
  have F_keys_of := fun_mk (st := s_keys_of) l_keys_of q_keys_of k_keys_of
  have B_keys_of := F_keys_of.binds (ps := [(Str.ofString "holding")]) fun _ _ _ _ _ _ us hl => match us, hl with | [_], _ => rfl
  have d_keys_of : FnD PySem.Challenge.pw_twooffices_k01_holdings w K mg base 1 (Str.ofString "keys_of") (fun as r => f_keys_of as = some r) := fn_ok F_keys_of sc_keys_of (PySem.W.mg_of X G a_keys_of) B_keys_of nk bl ck_keys_of (cty_nil gl_nil)
  have F_of_offices := fun_mk (st := s_of_offices) l_of_offices q_of_offices k_of_offices
  have B_of_offices := F_of_offices.binds (ps := [(Str.ofString "holding"), (Str.ofString "offices")]) fun _ _ _ _ _ _ us hl => match us, hl with | [_, _], _ => rfl
  have d_of_offices : FnD PySem.Challenge.pw_twooffices_k01_holdings w K mg base 8 (Str.ofString "of_offices") (fun as r => f_of_offices as = some r) := fn_ok F_of_offices sc_of_offices (PySem.W.mg_of X G a_of_offices) B_of_offices nk bl ck_of_offices (cty_fn d_check_holding (by decide) (cty_fn d_is_rising (by decide) (cty_fn d_is_office (by decide) (cty_fn d_copied (by decide) (cty_nil gl_nil)))))
  have F_lost := fun_mk (st := s_lost) l_lost q_lost k_lost
  have B_lost := F_lost.binds (ps := [(Str.ofString "holding")]) fun _ _ _ _ _ _ us hl => match us, hl with | [_], _ => rfl
  have d_lost : FnD PySem.Challenge.pw_twooffices_k01_holdings w K mg base 8 (Str.ofString "lost") (fun as r => f_lost as = some r) := fn_ok F_lost sc_lost (PySem.W.mg_of X G a_lost) B_lost nk bl ck_lost (cty_fn d_check_holding (by decide) (cty_fn d_keys_of (by decide) (cty_nil gl_nil)))
  have F_law_cell_at := fun_mk (st := s_law_cell_at) l_law_cell_at q_law_cell_at k_law_cell_at
  have B_law_cell_at := F_law_cell_at.binds (ps := [(Str.ofString "_law_script"), (Str.ofString "_law_k")]) fun _ _ _ _ _ _ us hl => match us, hl with | [_, _], _ => rfl
  have d_law_cell_at : FnD PySem.Challenge.pw_twooffices_k01_holdings w K mg base 1 (Str.ofString "_law_cell_at") (fun as r => f_law_cell_at as = some r) := fn_ok F_law_cell_at sc_law_cell_at (PySem.W.mg_of X G a_law_cell_at) B_law_cell_at nk bl ck_law_cell_at (cty_nil gl_nil)
  have F_law_draw := fun_mk (st := s_law_draw) l_law_draw q_law_draw k_law_draw
  have B_law_draw := F_law_draw.binds (ps := [(Str.ofString "_law_cell"), (Str.ofString "_law_k"), (Str.ofString "_law_many")]) fun _ _ _ _ _ _ us hl => match us, hl with | [_, _, _], _ => rfl
  have d_law_draw : FnD PySem.Challenge.pw_twooffices_k01_holdings w K mg base 1 (Str.ofString "_law_draw") (fun as r => f_law_draw as = some r) := fn_ok F_law_draw sc_law_draw (PySem.W.mg_of X G a_law_draw) B_law_draw nk bl ck_law_draw (cty_nil gl_nil)
  have F_law_value := fun_mk (st := s_law_value) l_law_value q_law_value k_law_value
  have B_law_value := F_law_value.binds (ps := [(Str.ofString "_law_cell"), (Str.ofString "_law_turn")]) fun _ _ _ _ _ _ us hl => match us, hl with | [_, _], _ => rfl
  have d_law_value : FnD PySem.Challenge.pw_twooffices_k01_holdings w K mg base 2 (Str.ofString "_law_value") (fun as r => f_law_value as = some r) := fn_ok F_law_value sc_law_value (PySem.W.mg_of X G a_law_value) B_law_value nk bl ck_law_value (cty_fn d_law_draw (by decide) (cty_nil gl_nil))
  have F_law_key := fun_mk (st := s_law_key) l_law_key q_law_key k_law_key
  have B_law_key := F_law_key.binds (ps := [(Str.ofString "_law_number")]) fun _ _ _ _ _ _ us hl => match us, hl with | [_], _ => rfl
  have d_law_key : FnD PySem.Challenge.pw_twooffices_k01_holdings w K mg base 1 (Str.ofString "_law_key") (fun as r => f_law_key as = some r) := fn_ok F_law_key sc_law_key (PySem.W.mg_of X G a_law_key) B_law_key nk bl ck_law_key (cty_nil gl_nil)
  have F_law_row := fun_mk (st := s_law_row) l_law_row q_law_row k_law_row
  have B_law_row := F_law_row.binds (ps := [(Str.ofString "_law_script"), (Str.ofString "_law_by"), (Str.ofString "_law_many"), (Str.ofString "_law_wide"), (Str.ofString "_law_kind")]) fun _ _ _ _ _ _ us hl => match us, hl with | [_, _, _, _, _], _ => rfl
  have d_law_row : FnD PySem.Challenge.pw_twooffices_k01_holdings w K mg base 3 (Str.ofString "_law_row") (fun as r => f_law_row as = some r) := fn_ok F_law_row sc_law_row (PySem.W.mg_of X G a_law_row) B_law_row nk bl ck_law_row (cty_fn d_law_value (by decide) (cty_fn d_law_cell_at (by decide) (cty_fn d_law_key (by decide) (cty_nil gl_nil))))
  have F_law_holding := fun_mk (st := s_law_holding) l_law_holding q_law_holding k_law_holding
  have B_law_holding := F_law_holding.binds (ps := [(Str.ofString "_law_script"), (Str.ofString "_law_by"), (Str.ofString "_law_most")]) fun _ _ _ _ _ _ us hl => match us, hl with | [_, _, _], _ => rfl
  have d_law_holding : FnD PySem.Challenge.pw_twooffices_k01_holdings w K mg base 4 (Str.ofString "_law_holding") (fun as r => f_law_holding as = some r) := fn_ok F_law_holding sc_law_holding (PySem.W.mg_of X G a_law_holding) B_law_holding nk bl ck_law_holding (cty_fn d_law_cell_at (by decide) (cty_fn d_law_value (by decide) (cty_fn d_law_row (by decide) (cty_nil gl_nil))))
  have F_law_copy := fun_mk (st := s_law_copy) l_law_copy q_law_copy k_law_copy
  have B_law_copy := F_law_copy.binds (ps := [(Str.ofString "_law_holding_here")]) fun _ _ _ _ _ _ us hl => match us, hl with | [_], _ => rfl
  have d_law_copy : FnD PySem.Challenge.pw_twooffices_k01_holdings w K mg base 1 (Str.ofString "_law_copy") (fun as r => f_law_copy as = some r) := fn_ok F_law_copy sc_law_copy (PySem.W.mg_of X G a_law_copy) B_law_copy nk bl ck_law_copy (cty_nil gl_nil)
  have F_law_keys := fun_mk (st := s_law_keys) l_law_keys q_law_keys k_law_keys
  have B_law_keys := F_law_keys.binds (ps := [(Str.ofString "_law_holding_here")]) fun _ _ _ _ _ _ us hl => match us, hl with | [_], _ => rfl
  have d_law_keys : FnD PySem.Challenge.pw_twooffices_k01_holdings w K mg base 1 (Str.ofString "_law_keys") (fun as r => f_law_keys as = some r) := fn_ok F_law_keys sc_law_keys (PySem.W.mg_of X G a_law_keys) B_law_keys nk bl ck_law_keys (cty_nil gl_nil)
  exact law_ok F_law sc_law nk bl ck_law (k := 8) (cty_fn d_law_holding (by decide) (cty_fn d_law_value (by decide) (cty_fn d_law_cell_at (by decide) (cty_fn d_law_keys (by decide) (cty_fn d_law_copy (by decide) (cty_fn d_of_offices (by decide) (cty_fn d_lost (by decide) (cty_nil gl_nil))))))))
end T2.Q.K01
open PySem PySem.W PyProof.Rows
set_option maxHeartbeats 0 in
theorem PySem.Challenge.cw_twooffices_k01_holdings_holds : PySem.Challenge.rw_twooffices_k01_holdings.Holds := by
  w_on; o_law; k_head; (case hw => w_witness2)
  k_fill
  refine L2.walk_ofB (l := PySem.Challenge.rw_twooffices_k01_holdings) (n := 63) (k := 9) (x := (Str.ofString "_law_script")) (CX := fun _ => L2.CX0) (sp := fun w => T2.spB _ (fun as r => T2.Q.f_law_k01 as = some r)) rfl (by decide) rfl ⟨rfl, by decide, by decide⟩ (fun w h Y => PySem.W.kIn_of Y) ?F (fun _ _ a ns hl hb _ hS => ⟨rfl, fun hO => T2.script_ok hO hS (T2.Q.law_run ns hl hb false)⟩) (fun _ _ _ _ _ h => h)
  case F =>
    intro w mg fa h KX G hmg
    refine' T2.Q.K01.all_mk KX G hmg ?nk ?a_is_whole ?l_is_whole ?q_is_whole ?k_is_whole ?a_is_word ?l_is_word ?q_is_word ?k_is_word ?a_is_office ?l_is_office ?q_is_office ?k_is_office ?a_is_key ?l_is_key ?q_is_key ?k_is_key ?a_is_rising ?l_is_rising ?q_is_rising ?k_is_rising ?a_are_keys ?l_are_keys ?q_are_keys ?k_are_keys ?a_is_row ?l_is_row ?q_is_row ?k_is_row ?a_is_holding ?l_is_holding ?q_is_holding ?k_is_holding ?a_check_holding ?l_check_holding ?q_check_holding ?k_check_holding ?a_copied ?l_copied ?q_copied ?k_copied ?a_keys_of ?l_keys_of ?q_keys_of ?k_keys_of ?a_of_offices ?l_of_offices ?q_of_offices ?k_of_offices ?a_lost ?l_lost ?q_lost ?k_lost ?a_law_cell_at ?l_law_cell_at ?q_law_cell_at ?k_law_cell_at ?a_law_draw ?l_law_draw ?q_law_draw ?k_law_draw ?a_law_value ?l_law_value ?q_law_value ?k_law_value ?a_law_key ?l_law_key ?q_law_key ?k_law_key ?a_law_row ?l_law_row ?q_law_row ?k_law_row ?a_law_holding ?l_law_holding ?q_law_holding ?k_law_holding ?a_law_copy ?l_law_copy ?q_law_copy ?k_law_copy ?a_law_keys ?l_law_keys ?q_law_keys ?k_law_keys ?a_law ?l_law ?q_law ?k_law ?z_len ?z_all ?z_any ?z_sorted ?z_list ?z_max ?z_min ?z_isinstance ?z_range ?z_enumerate ?z_zip ?z_tuple ?z_str ?z_int ?z_bool ?z_set ?m_LETTERS ?m_LONGEST_OFFICE ?m_GREATEST ?m_LONGEST_FIELD ?m_MOST_FIELDS ?m_MOST_POINTINGS ?m_MOST_ROWS
    (case nk => rfl)
    (case a_is_whole => k_is)
    (case l_is_whole => k_is)
    (case q_is_whole => k_is)
    (case k_is_whole => k_is)
    (case a_is_word => k_is)
    (case l_is_word => k_is)
    (case q_is_word => k_is)
    (case k_is_word => k_is)
    (case a_is_office => k_is)
    (case l_is_office => k_is)
    (case q_is_office => k_is)
    (case k_is_office => k_is)
    (case a_is_key => k_is)
    (case l_is_key => k_is)
    (case q_is_key => k_is)
    (case k_is_key => k_is)
    (case a_is_rising => k_is)
    (case l_is_rising => k_is)
    (case q_is_rising => k_is)
    (case k_is_rising => k_is)
    (case a_are_keys => k_is)
    (case l_are_keys => k_is)
    (case q_are_keys => k_is)
    (case k_are_keys => k_is)
    (case a_is_row => k_is)
    (case l_is_row => k_is)
    (case q_is_row => k_is)
    (case k_is_row => k_is)
    (case a_is_holding => k_is)
    (case l_is_holding => k_is)
    (case q_is_holding => k_is)
    (case k_is_holding => k_is)
    (case a_check_holding => k_is)
    (case l_check_holding => k_is)
    (case q_check_holding => k_is)
    (case k_check_holding => k_is)
    (case a_copied => k_is)
    (case l_copied => k_is)
    (case q_copied => k_is)
    (case k_copied => k_is)
    (case a_keys_of => k_is)
    (case l_keys_of => k_is)
    (case q_keys_of => k_is)
    (case k_keys_of => k_is)
    (case a_of_offices => k_is)
    (case l_of_offices => k_is)
    (case q_of_offices => k_is)
    (case k_of_offices => k_is)
    (case a_lost => k_is)
    (case l_lost => k_is)
    (case q_lost => k_is)
    (case k_lost => k_is)
    (case a_law_cell_at => k_is)
    (case l_law_cell_at => k_is)
    (case q_law_cell_at => k_is)
    (case k_law_cell_at => k_is)
    (case a_law_draw => k_is)
    (case l_law_draw => k_is)
    (case q_law_draw => k_is)
    (case k_law_draw => k_is)
    (case a_law_value => k_is)
    (case l_law_value => k_is)
    (case q_law_value => k_is)
    (case k_law_value => k_is)
    (case a_law_key => k_is)
    (case l_law_key => k_is)
    (case q_law_key => k_is)
    (case k_law_key => k_is)
    (case a_law_row => k_is)
    (case l_law_row => k_is)
    (case q_law_row => k_is)
    (case k_law_row => k_is)
    (case a_law_holding => k_is)
    (case l_law_holding => k_is)
    (case q_law_holding => k_is)
    (case k_law_holding => k_is)
    (case a_law_copy => k_is)
    (case l_law_copy => k_is)
    (case q_law_copy => k_is)
    (case k_law_copy => k_is)
    (case a_law_keys => k_is)
    (case l_law_keys => k_is)
    (case q_law_keys => k_is)
    (case k_law_keys => k_is)
    (case a_law => k_is)
    (case l_law => k_is)
    (case q_law => k_is)
    (case k_law => k_is)
    (case z_len => k_is)
    (case z_all => k_is)
    (case z_any => k_is)
    (case z_sorted => k_is)
    (case z_list => k_is)
    (case z_max => k_is)
    (case z_min => k_is)
    (case z_isinstance => k_is)
    (case z_range => k_is)
    (case z_enumerate => k_is)
    (case z_zip => k_is)
    (case z_tuple => k_is)
    (case z_str => k_is)
    (case z_int => k_is)
    (case z_bool => k_is)
    (case z_set => k_is)
    (case m_LETTERS => k_is)
    (case m_LONGEST_OFFICE => k_is)
    (case m_GREATEST => k_is)
    (case m_LONGEST_FIELD => k_is)
    (case m_MOST_FIELDS => k_is)
    (case m_MOST_POINTINGS => k_is)
    (case m_MOST_ROWS => k_is)
end
